import PyProof.Rows.All
import Wide.All
import OpenK.AllK
import Wide.FinOn
import HandS.ForMost
import HandS.Exc
import HandS.Lambda
import HandS.IsInst
import HandS.Style
import HandS.TupMul
import KE.DataEq
import HandS.ExcOwn
import HandS.WordsExc
import HandS.TryOnly
import HandS.Defaults
import KE.KCompFold
import KE.GoesEnum
import HandS.Steps
import KE.DataCmp
import KE.DataMinMax
import PyProof.ReprRoads
import PyProof.ReprBulk
import PyProof.FitsInt
import HandS.ExcField
import HandS.ExcIs
import HandS.Conv
import HandS.OwnEq
import OpenK.KOps
import HandS.Text
import HandS.List
import PyProof.StrLawsIn
import PyProof.ListRange
import HandS.FStr
import HandS.SetTxt0
import HandS.TupSets
import KE.KCallOwn
import HandS.Flow
import HandS.RaiseMore
import HandS.Codes
import HandS.ExcInit
import KE.KDictPairs
import KE.KDictCopyH
import HandS.DictTup
import HandS.Iter
import HandS.DictEq
import HandS.EndTab
import PySem.Challenge.RW_everyhead_k19_no_single_heads
set_option Elab.async false
set_option linter.all false
set_option maxRecDepth 100000
namespace DL
open PySem L2

/-! ### data as trees; o: the node is the holder's own (it may be changed), else it stays for ever -/
inductive D where
  | non | bl (b : Bool) | int (i : Int) | str (x : List Nat)
  | lst (o : Bool) (xs : List D)
  | tup (xs : List D)
  | dK (o : Bool) (ks : List Key) (xs : List D)
  | dT (o : Bool) (ks : List (List Key)) (xs : List D)
  | obj (o : Bool) (c : Str) (fs : List Str) (xs : List D)
  | scr (ns : List Int)
  | exc (c : Str) (fs : List Str) (xs : List D)
  /-- a thing of which nothing is known -/
  | any

mutual
def frz : D → D
  | .non => .non
  | .bl b => .bl b
  | .int i => .int i
  | .str x => .str x
  | .lst _ xs => .lst false (frzs xs)
  | .tup xs => .tup (frzs xs)
  | .dK _ ks xs => .dK false ks (frzs xs)
  | .dT _ ks xs => .dT false ks (frzs xs)
  | .obj _ c fs xs => .obj false c fs (frzs xs)
  | .scr ns => .scr ns
  | .exc c fs xs => .exc c fs (frzs xs)
  | .any => .any
def frzs : List D → List D
  | [] => []
  | x :: xs => frz x :: frzs xs
end
mutual
/-- something within is shared, and can be changed -/
def shr : D → Bool
  | .non => false
  | .bl _ => false
  | .int _ => false
  | .str _ => false
  | .lst o xs => !o || shrs xs
  | .tup xs => shrs xs
  | .dK o _ xs => !o || shrs xs
  | .dT o _ xs => !o || shrs xs
  | .obj o _ _ xs => !o || shrs xs
  | .scr _ => false
  | .exc _ _ xs => shrs xs
  | .any => false
def shrs : List D → Bool
  | [] => false
  | x :: xs => shr x || shrs xs
end
theorem frzs_map : ∀ xs : List D, frzs xs = xs.map frz
  | [] => rfl
  | x :: xs => by rw [frzs, frzs_map xs]; rfl
theorem shrs_any : ∀ xs : List D, shrs xs = xs.any shr
  | [] => rfl
  | x :: xs => by rw [shrs, shrs_any xs]; rfl

abbrev Env := List (Option D)
structure Xc where
  cls : Str
  fs : List Str
  ds : List D
inductive Out (α : Type) where
  | ok (a : α) | exn (x : Xc) (r : Env) | bad
def Out.bind {α β : Type} (o : Out α) (f : α → Out β) : Out β := match o with
  | .ok a => f a
  | .exn x r => .exn x r
  | .bad => .bad
def Post {α : Type} (o : Out α) (q : α → Prop) (e : Xc → Env → Prop) : Prop := match o with
  | .ok a => q a
  | .exn x r => e x r
  | .bad => False
theorem Post.bind {α β : Type} {o : Out α} {f : α → Out β} {q : β → Prop} {e : Xc → Env → Prop} (h : Post (o.bind f) q e) : Post o (fun a => Post (f a) q e) e := by
  cases o <;> exact h
theorem Post.mono {α : Type} {o : Out α} {q q' : α → Prop} {e e' : Xc → Env → Prop} (h : Post o q e) (hq : ∀ a, q a → q' a) (he : ∀ x r, e x r → e' x r) : Post o q' e' := by
  cases o with
  | ok a => exact hq a h
  | exn x r => exact he x r h
  | bad => exact h

/-- a table of code objects: it may grow -/
def isTb : HO → Bool
  | .tbl _ => true
  | _ => false
theorem isTb_no {o : HO} (h : ∀ ps, o ≠ .tbl ps) : isTb o = false := by
  cases o <;> first | rfl | exact absurd rfl (h _)
theorem no_isTb {o : HO} (h : isTb o = false) : ∀ ps, o ≠ .tbl ps := fun ps z => by rw [z] at h; cases h
/-- the tables of code objects of the defs that make lambdas -/
class Tbs where
  T : List (Addr × Str)
instance (priority := low) ttNil : Tbs := ⟨[]⟩
variable [Tbs]
/-- H grows into H' -/
structure Ex (H H' : Hp) : Prop where
  get : ∀ a o, H a = some o → (h : isTb o = false := by rfl) → H' a = some o
  bk : ∀ a, H' a = none → H a = none
  tb : LamX.Tabs Tbs.T H → LamX.Tabs Tbs.T H'
instance {H H' : Hp} : CoeFun (Ex H H') (fun _ => ∀ a o, H a = some o → (h : isTb o = false := by rfl) → H' a = some o) := ⟨fun e => @Ex.get _ _ _ e⟩
theorem Ex.refl (H : Hp) : Ex H H := ⟨fun _ _ h _ => h, fun _ h => h, fun h => h⟩
theorem Ex.trans {H H1 H2 : Hp} (a : Ex H H1) (b : Ex H1 H2) : Ex H H2 := ⟨fun x o h n => b.get x o (a.get x o h n) n, fun x h => a.bk x (b.bk x h), fun h => b.tb (a.tb h)⟩
theorem Ex.all {H H' : Hp} (h : ∀ a o, H a = some o → H' a = some o) : Ex H H' := ⟨fun a o q _ => h a o q, fun a q => (by
  cases h1 : H a with
  | none => rfl
  | some o => rw [h a o h1] at q; cases q), fun t => LamX.Tabs.ext t h⟩
theorem Ex.new {H : Hp} {p : Addr} {o : HO} (h : H p = none) : Ex H (upd H p o) := Ex.all fun a u e => by
  rw [upd_ne (ne_of_none e h)]
  exact e
theorem Ex.back {H H' : Hp} {p : Addr} (e : Ex H H') (h : H' p = none) : H p = none := e.bk p h

/-- the written part, and the classes' addresses in it -/
structure Cm where
  K : PySem.W.Frag
  cl : Str → Addr
  ok : Str → Prop

/-- an exception's object: its class, its own dict -/
def ExK (cls : Value) (dx : Option Addr) (p : Addr) : HO := .ext fun h => ∃ oe vs, h.get? p = some oe ∧ Zc cls dx oe ∧ oe.data = .fields vs
/-! ### v stands for d in H; fp: the own nodes; W: what a shared node is not -/
mutual
inductive Rep (cm : Cm) (W : Addr → Prop) (H : Hp) : V → D → List Addr → Prop
  | non : Rep cm W H .non .non []
  | bl (b : Bool) : Rep cm W H (.bl b) (.bl b) []
  | int (i : Int) : Rep cm W H (.int i) (.int i) []
  | str (x : List Nat) : Rep cm W H (.str ⟨x.toArray⟩) (.str x) []
  | lstO {p : Addr} {vs : List V} {ds : List D} {fp : List Addr} : H p = some (.lst vs) → Reps cm W H vs ds fp → Rep cm W H (.ref p) (.lst true ds) (p :: fp)
  | lstF {p : Addr} {vs : List V} {ds : List D} : H p = some (.lst vs) → ¬ W p → Reps cm W H vs ds [] → Rep cm W H (.ref p) (.lst false ds) []
  | tup {p : Addr} {vs : List V} {ds : List D} {fp : List Addr} : H p = some (.tup vs) → ¬ W p → Reps cm W H vs ds fp → Rep cm W H (.ref p) (.tup ds) fp
  | dKO {p : Addr} {ks : List Key} {vs : List V} {ds : List D} {fp : List Addr} : H p = some (.dK (ks.zip vs)) → ks.length = vs.length → Reps cm W H vs ds fp → Rep cm W H (.ref p) (.dK true ks ds) (p :: fp)
  | dKF {p : Addr} {ks : List Key} {vs : List V} {ds : List D} : Rd H p (.dK (ks.zip vs)) → ks.length = vs.length → ¬ W p → Reps cm W H vs ds [] → Rep cm W H (.ref p) (.dK false ks ds) []
  | dTO {p : Addr} {ks : List (List Key)} {vs : List V} {ds : List D} {fp : List Addr} : H p = some (.dT (ks.zip vs)) → ks.length = vs.length → Reps cm W H vs ds fp → Rep cm W H (.ref p) (.dT true ks ds) (p :: fp)
  | dTF {p : Addr} {ks : List (List Key)} {vs : List V} {ds : List D} : Rd H p (.dT (ks.zip vs)) → ks.length = vs.length → ¬ W p → Reps cm W H vs ds [] → Rep cm W H (.ref p) (.dT false ks ds) []
  | objO {p dx : Addr} {c : Str} {fs : List Str} {vs : List V} {ds : List D} {fp : List Addr} : H p = some (.ins (cm.cl c) dx (fs.zip vs)) → (fs.length = vs.length ∧ cm.ok c) → Reps cm W H vs ds fp → Rep cm W H (.ref p) (.obj true c fs ds) (p :: fp)
  | objF {p dx : Addr} {c : Str} {fs : List Str} {vs : List V} {ds : List D} : H p = some (.ins (cm.cl c) dx (fs.zip vs)) → (fs.length = vs.length ∧ cm.ok c) → ¬ W p → Reps cm W H vs ds [] → Rep cm W H (.ref p) (.obj false c fs ds) []
  | scrF {p : Addr} {o : Obj} {ns : List Int} : H p = some (.frz o (.lst (ns.map V.int))) → ¬ W p → Rep cm W H (.ref p) (.scr ns) []
  | scrK {p : Addr} {ns : List Int} : (∀ H', SqL cm.K H' p (ns.map V.int)) → Rep cm W H (.ref p) (.scr ns) []
  | exc {p : Addr} {dx : Option Addr} {c : Str} {fs : List Str} {vs : List V} {ds : List D} : H p = some (ExK (.ref (cm.cl c)) dx p) → ¬ W p → ((fs = [] ∧ dx = none) ∨ ∃ a, dx = some a ∧ H a = some (.xd (fs.zip vs)) ∧ ¬ W a) → fs.length = vs.length → Reps cm W H vs ds [] → Rep cm W H (.ref p) (.exc c fs ds) []
  | any {v : V} : Rep cm W H v .any []
inductive Reps (cm : Cm) (W : Addr → Prop) (H : Hp) : List V → List D → List Addr → Prop
  | nil : Reps cm W H [] [] []
  | cons {v : V} {d : D} {fp : List Addr} {vs : List V} {ds : List D} {fps : List Addr} : Rep cm W H v d fp → Reps cm W H vs ds fps → Reps cm W H (v :: vs) (d :: ds) (fp ++ fps)
end

section
variable {cm : Cm} {W W' : Addr → Prop} {H H' : Hp}
theorem Rd.ex {a : Addr} {u : HO} (h : Rd H a u) (e : ∀ o, H a = some o → isTb o = false → H' a = some o) (hu : isTb u = false := by rfl) : Rd H' a u := by
  rcases h with h | ⟨o, h⟩
  · exact .inl (e _ h hu)
  · exact .inr ⟨o, e _ h rfl⟩
theorem Rd.there {a : Addr} {u : HO} (h : Rd H a u) : H a ≠ none := by
  rcases h with h | ⟨o, h⟩ <;> rw [h] <;> exact fun q => nomatch q
/-! own nodes stand; what is read stays as it is; W grows by what wasn't there -/
mutual
theorem Rep.move (hW : ∀ a, W' a → W a ∨ H a = none) : ∀ {v : V} {d : D} {fp : List Addr}, Rep cm W H v d fp → (∀ a o, H a = some o → isTb o = false → (¬ W a ∨ a ∈ fp) → H' a = some o) → Rep cm W' H' v d fp
  | _, _, _, .non, _ => .non
  | _, _, _, .bl b, _ => .bl b
  | _, _, _, .int i, _ => .int i
  | _, _, _, .str x, _ => .str x
  | _, _, _, .lstO h r, e => .lstO (e _ _ h rfl (.inr (List.mem_cons_self ..))) (Reps.move hW r fun a o q t w => e a o q t (w.imp id (List.mem_cons_of_mem _)))
  | _, _, _, .lstF h n r, e => .lstF (e _ _ h rfl (.inl n)) (fun w => (hW _ w).elim n (fun q => by rw [h] at q; cases q)) (Reps.move hW r e)
  | _, _, _, .scrF h n, e => .scrF (e _ _ h rfl (.inl n)) (fun w => (hW _ w).elim n (fun q => by rw [h] at q; cases q))
  | _, _, _, .scrK h, e => .scrK h
  | _, _, _, .exc h n q l r, e => .exc (e _ _ h rfl (.inl n)) (fun w => (hW _ w).elim n (fun q => by rw [h] at q; cases q)) (q.imp id fun ⟨a, h1, h2, h3⟩ => ⟨a, h1, e _ _ h2 rfl (.inl h3), fun w => (hW _ w).elim h3 (fun q => by rw [h2] at q; cases q)⟩) l (Reps.move hW r e)
  | _, _, _, .tup h n r, e => .tup (e _ _ h rfl (.inl n)) (fun w => (hW _ w).elim n (fun q => by rw [h] at q; cases q)) (Reps.move hW r e)
  | _, _, _, .dKO h l r, e => .dKO (e _ _ h rfl (.inr (List.mem_cons_self ..))) l (Reps.move hW r fun a o q t w => e a o q t (w.imp id (List.mem_cons_of_mem _)))
  | _, _, _, .dKF h l n r, e => .dKF (Rd.ex h fun o q t => e _ o q t (.inl n)) l (fun w => (hW _ w).elim n (Rd.there h)) (Reps.move hW r e)
  | _, _, _, .dTO h l r, e => .dTO (e _ _ h rfl (.inr (List.mem_cons_self ..))) l (Reps.move hW r fun a o q t w => e a o q t (w.imp id (List.mem_cons_of_mem _)))
  | _, _, _, .dTF h l n r, e => .dTF (Rd.ex h fun o q t => e _ o q t (.inl n)) l (fun w => (hW _ w).elim n (Rd.there h)) (Reps.move hW r e)
  | _, _, _, .objO h l r, e => .objO (e _ _ h rfl (.inr (List.mem_cons_self ..))) l (Reps.move hW r fun a o q t w => e a o q t (w.imp id (List.mem_cons_of_mem _)))
  | _, _, _, .objF h l n r, e => .objF (e _ _ h rfl (.inl n)) l (fun w => (hW _ w).elim n (fun q => by rw [h] at q; cases q)) (Reps.move hW r e)
  | _, _, _, .any, _ => .any
theorem Reps.move (hW : ∀ a, W' a → W a ∨ H a = none) : ∀ {vs : List V} {ds : List D} {fp : List Addr}, Reps cm W H vs ds fp → (∀ a o, H a = some o → isTb o = false → (¬ W a ∨ a ∈ fp) → H' a = some o) → Reps cm W' H' vs ds fp
  | _, _, _, .nil, _ => .nil
  | _, _, _, .cons h r, e => .cons (Rep.move hW h fun a o q t w => e a o q t (w.imp id (List.mem_append_left _))) (Reps.move hW r fun a o q t w => e a o q t (w.imp id (List.mem_append_right _)))
end
/-- a node that can be changed -/
def isM : HO → Bool
  | .lst _ => true
  | .dK _ => true
  | .dT _ => true
  | .ins _ _ _ => true
  | _ => false
def MutAt (H : Hp) (a : Addr) : Prop := ∃ o, H a = some o ∧ isM o = true
theorem MutAt.there {H : Hp} {a : Addr} (h : MutAt H a) : H a ≠ none := by
  obtain ⟨o, h, _⟩ := h
  rw [h]; exact fun q => nomatch q
theorem MutAt.noTb {H : Hp} {a : Addr} (h : MutAt H a) {o : HO} (e : H a = some o) : isM o = true := by
  obtain ⟨u, q, m⟩ := h
  rw [e] at q
  cases q
  exact m
theorem isM_tb {o : HO} (h : isM o = true) : isTb o = false := by cases o <;> first | rfl | cases h
theorem Tabs.updM {T : List (Addr × Str)} {H : Hp} {p : Addr} {o : HO} (t : LamX.Tabs T H) (hm : MutAt H p) : LamX.Tabs T (upd H p o) := fun q hq => by
  obtain ⟨ps, h1, h2, h3⟩ := t q hq
  refine ⟨ps, ?_, h2, fun pos cv hc => ?_⟩
  · rw [upd_ne]
    · exact h1
    · rintro rfl
      cases hm.noTb h1
  · obtain ⟨c, e1, e2⟩ := h3 pos cv hc
    refine ⟨c, e1, ?_⟩
    rw [upd_ne]
    · exact e2
    · rintro rfl
      cases hm.noTb e2
/-- what is new and can be changed is changed -/
theorem Ex.updM {H H1 : Hp} {p : Addr} {o : HO} (e : Ex H H1) (h : H p = none) (hm : MutAt H1 p) : Ex H (upd H1 p o) := ⟨fun a u z t => by
  rw [upd_ne (ne_of_none z h)]
  exact e.get a u z t, fun a z => by
  by_cases q : a = p
  · rw [q]; exact h
  · rw [upd_ne q] at z; exact e.bk a z, fun t => Tabs.updM (e.tb t) hm⟩
/-! own nodes are there -/
mutual
theorem Rep.own : ∀ {v : V} {d : D} {fp : List Addr}, Rep cm W H v d fp → ∀ a ∈ fp, MutAt H a
  | _, _, _, .non, _, h => nomatch h
  | _, _, _, .bl _, _, h => nomatch h
  | _, _, _, .int _, _, h => nomatch h
  | _, _, _, .str _, _, h => nomatch h
  | _, _, _, .lstO h r, a, m => by
    rcases List.mem_cons.mp m with rfl | m
    · exact ⟨_, h, rfl⟩
    · exact Reps.own r a m
  | _, _, _, .lstF _ _ _, _, h => nomatch h
  | _, _, _, .tup _ _ r, a, m => Reps.own r a m
  | _, _, _, .dKO h _ r, a, m => by
    rcases List.mem_cons.mp m with rfl | m
    · exact ⟨_, h, rfl⟩
    · exact Reps.own r a m
  | _, _, _, .dKF _ _ _ _, _, h => nomatch h
  | _, _, _, .dTO h _ r, a, m => by
    rcases List.mem_cons.mp m with rfl | m
    · exact ⟨_, h, rfl⟩
    · exact Reps.own r a m
  | _, _, _, .dTF _ _ _ _, _, h => nomatch h
  | _, _, _, .objO h _ r, a, m => by
    rcases List.mem_cons.mp m with rfl | m
    · exact ⟨_, h, rfl⟩
    · exact Reps.own r a m
  | _, _, _, .objF _ _ _ _, _, h => nomatch h
  | _, _, _, .scrF _ _, _, h => nomatch h
  | _, _, _, .scrK _, _, h => nomatch h
  | _, _, _, .exc _ _ _ _ _, _, h => nomatch h
  | _, _, _, .any, _, h => nomatch h
theorem Reps.own : ∀ {vs : List V} {ds : List D} {fp : List Addr}, Reps cm W H vs ds fp → ∀ a ∈ fp, MutAt H a
  | _, _, _, .nil, _, h => nomatch h
  | _, _, _, .cons h r, a, m => by
    rcases List.mem_append.mp m with m | m
    · exact Rep.own h a m
    · exact Reps.own r a m
end
/-! own nodes become shared ones -/
mutual
theorem Rep.frz (hW : ∀ a, W' a → W a) : ∀ {v : V} {d : D} {fp : List Addr}, Rep cm W H v d fp → (∀ a ∈ fp, ¬ W' a) → Rep cm W' H v (frz d) []
  | _, _, _, .non, _ => .non
  | _, _, _, .bl b, _ => .bl b
  | _, _, _, .int i, _ => .int i
  | _, _, _, .str x, _ => .str x
  | _, _, _, .lstO h r, e => .lstF h (e _ (List.mem_cons_self ..)) (Reps.frz hW r fun a m => e a (List.mem_cons_of_mem _ m))
  | _, _, _, .lstF h n r, e => .lstF h (fun w => n (hW _ w)) (Reps.frz hW r e)
  | _, _, _, .tup h n r, e => .tup h (fun w => n (hW _ w)) (Reps.frz hW r e)
  | _, _, _, .dKO h l r, e => .dKF (.inl h) l (e _ (List.mem_cons_self ..)) (Reps.frz hW r fun a m => e a (List.mem_cons_of_mem _ m))
  | _, _, _, .dKF h l n r, e => .dKF h l (fun w => n (hW _ w)) (Reps.frz hW r e)
  | _, _, _, .dTO h l r, e => .dTF (.inl h) l (e _ (List.mem_cons_self ..)) (Reps.frz hW r fun a m => e a (List.mem_cons_of_mem _ m))
  | _, _, _, .dTF h l n r, e => .dTF h l (fun w => n (hW _ w)) (Reps.frz hW r e)
  | _, _, _, .objO h l r, e => .objF h l (e _ (List.mem_cons_self ..)) (Reps.frz hW r fun a m => e a (List.mem_cons_of_mem _ m))
  | _, _, _, .objF h l n r, e => .objF h l (fun w => n (hW _ w)) (Reps.frz hW r e)
  | _, _, _, .scrF h n, e => .scrF h (fun w => n (hW _ w))
  | _, _, _, .scrK h, e => .scrK h
  | _, _, _, .exc h n q l r, e => .exc h (fun w => n (hW _ w)) (q.imp id fun ⟨a, h1, h2, h3⟩ => ⟨a, h1, h2, fun w => h3 (hW _ w)⟩) l (Reps.frz hW r e)
  | _, _, _, .any, _ => .any
theorem Reps.frz (hW : ∀ a, W' a → W a) : ∀ {vs : List V} {ds : List D} {fp : List Addr}, Reps cm W H vs ds fp → (∀ a ∈ fp, ¬ W' a) → Reps cm W' H vs (frzs ds) []
  | _, _, _, .nil, _ => .nil
  | _, _, _, .cons h r, e => .cons (fp := []) (Rep.frz hW h fun a m => e a (List.mem_append_left _ m)) (Reps.frz hW r fun a m => e a (List.mem_append_right _ m))
end
/-- without shared nodes W is nothing, but of tuples -/
def NoW (H : Hp) (W : Addr → Prop) : Prop := ∀ a o, H a = some o → isM o = false → ¬ W a
mutual
theorem Rep.anyW (hW : NoW H W') : ∀ {v : V} {d : D} {fp : List Addr}, Rep cm W H v d fp → shr d = false → Rep cm W' H v d fp
  | _, _, _, .non, _ => .non
  | _, _, _, .bl b, _ => .bl b
  | _, _, _, .int i, _ => .int i
  | _, _, _, .str x, _ => .str x
  | _, _, _, .lstO h r, e => .lstO h (Reps.anyW hW r (by simpa [shr] using e))
  | _, _, _, .lstF h n r, e => by simp [shr] at e
  | _, _, _, .tup h n r, e => .tup h (hW _ _ h rfl) (Reps.anyW hW r (by simpa [shr] using e))
  | _, _, _, .dKO h l r, e => .dKO h l (Reps.anyW hW r (by simpa [shr] using e))
  | _, _, _, .dKF h l n r, e => by simp [shr] at e
  | _, _, _, .dTO h l r, e => .dTO h l (Reps.anyW hW r (by simpa [shr] using e))
  | _, _, _, .dTF h l n r, e => by simp [shr] at e
  | _, _, _, .objO h l r, e => .objO h l (Reps.anyW hW r (by simpa [shr] using e))
  | _, _, _, .objF h l n r, e => by simp [shr] at e
  | _, _, _, .scrF h n, e => .scrF h (hW _ _ h rfl)
  | _, _, _, .scrK h, e => .scrK h
  | _, _, _, .exc h n q l r, e => .exc h (hW _ _ h rfl) (q.imp id fun ⟨a, h1, h2, h3⟩ => ⟨a, h1, h2, hW _ _ h2 rfl⟩) l (Reps.anyW hW r (by simpa [shr] using e))
  | _, _, _, .any, _ => .any
theorem Reps.anyW (hW : NoW H W') : ∀ {vs : List V} {ds : List D} {fp : List Addr}, Reps cm W H vs ds fp → shrs ds = false → Reps cm W' H vs ds fp
  | _, _, _, .nil, _ => .nil
  | _, _, _, .cons h r, e => by
    simp only [shrs, Bool.or_eq_false_iff] at e
    exact .cons (Rep.anyW hW h e.1) (Reps.anyW hW r e.2)
end
end
end DL

namespace DL
variable [Tbs]
open PySem L2

/-- what may be changed can be; the tables stand -/
def WOk (cm : Cm) (W : Addr → Prop) (H : Hp) : Prop := (∀ a, W a → MutAt H a) ∧ LamX.Tabs Tbs.T H
theorem MutAt.ex {H H' : Hp} {a : Addr} (h : MutAt H a) (e : Ex H H') : MutAt H' a := by
  obtain ⟨o, h, m⟩ := h
  exact ⟨o, e.get _ _ h (by cases o <;> first | rfl | cases m), m⟩
theorem WOk.ex {cm : Cm} {W : Addr → Prop} {H H' : Hp} (h : WOk cm W H) (e : Ex H H') : WOk cm W H' := ⟨fun a w => (h.1 a w).ex e, e.tb h.2⟩
theorem Rep.ex {cm : Cm} {W : Addr → Prop} {H H' : Hp} {v : V} {d : D} {fp : List Addr} (h : Rep cm W H v d fp) (e : Ex H H') : Rep cm W H' v d fp := h.move (fun _ w => .inl w) fun a o q t _ => e.get a o q t
theorem Reps.ex {cm : Cm} {W : Addr → Prop} {H H' : Hp} {v : List V} {d : List D} {fp : List Addr} (h : Reps cm W H v d fp) (e : Ex H H') : Reps cm W H' v d fp := h.move (fun _ w => .inl w) fun a o q t _ => e.get a o q t

/-- the slots, all shared -/
def FRep (cm : Cm) (W : Addr → Prop) (H : Hp) (σ : St) (r : Env) : Prop := σ.length = r.length ∧ ∀ (i : Nat) d, r[i]? = some (some d) → ∃ v, σ[i]? = some (some v) ∧ Rep cm W H v d []
theorem FRep.ex {cm : Cm} {W : Addr → Prop} {H H' : Hp} {σ : St} {r : Env} (h : FRep cm W H σ r) (e : Ex H H') : FRep cm W H' σ r := ⟨h.1, fun i d q => by
  obtain ⟨v, h1, h2⟩ := h.2 i d q
  exact ⟨v, h1, h2.ex e⟩⟩
/-- an exception: its class, its own dict -/
def XRep (cm : Cm) (W : Addr → Prop) (H : Hp) (x : Xc) (dx : Option Addr) : Prop :=
  (x.fs = [] ∧ dx = none) ∨ ∃ a vs, dx = some a ∧ H a = some (.xd (x.fs.zip vs)) ∧ x.fs.length = vs.length ∧ Reps cm W H vs x.ds []
theorem XRep.weak {cm : Cm} {W W' : Addr → Prop} {H : Hp} {x : Xc} {dx : Option Addr} (h : XRep cm W H x dx) (hW : ∀ a, W' a → W a) : XRep cm W' H x dx := by
  rcases h with h | ⟨a, vs, h1, h2, h3, h4⟩
  · exact .inl h
  · exact .inr ⟨a, vs, h1, h2, h3, h4.move (fun a z => .inl (hW a z)) fun _ _ q _ _ => q⟩
abbrev XS := St → XK
def XPost (cm : Cm) (E : XK) (W : Addr → Prop) (H : Hp) : Xc → Env → Prop := fun x _ => ∀ H' dx, Ex H H' → XRep cm W H' x dx → E (.ref (cm.cl x.cls)) dx H'
theorem XPost.ex {cm : Cm} {E : XK} {W : Addr → Prop} {H H' : Hp} (e : Ex H H') {x : Xc} {r : Env} (h : XPost cm E W H x r) : XPost cm E W H' x r := fun H2 dx e2 q => h H2 dx (e.trans e2) q
/-- the own nodes of a value: none, or new ones -/
def FpN (b : Bool) (H : Hp) (fp : List Addr) : Prop := match b with
  | false => fp = []
  | true => fp.Nodup ∧ ∀ a ∈ fp, H a = none
theorem FpN.nil {b : Bool} {H : Hp} : FpN b H [] := by
  cases b
  · rfl
  · exact ⟨List.nodup_nil, fun _ h => nomatch h⟩
theorem FpN.ex {b : Bool} {H H' : Hp} {fp : List Addr} (h : FpN b H' fp) (e : Ex H H') : FpN b H fp := by
  cases b
  · exact h
  · exact ⟨h.1, fun a m => e.back (h.2 a m)⟩
theorem FpN.up {b : Bool} {H : Hp} {fp : List Addr} (h : FpN b H fp) : FpN true H fp := by
  cases b
  · cases (show fp = [] from h); exact FpN.nil
  · exact h

abbrev F := Env → Out D
/-- W and the value's own nodes -/
abbrev Wp (W : Addr → Prop) (fp : List Addr) : Addr → Prop := fun a => W a ∨ a ∈ fp
theorem Rep.toP {cm : Cm} {W : Addr → Prop} {H : Hp} {v : V} {d : D} {fp : List Addr} (h : Rep cm W H v d fp) : Rep cm (Wp W []) H v d fp := h.move (fun a z => .inl (z.resolve_right (fun m => nomatch m))) fun _ _ q _ _ => q
theorem Rep.ofP {cm : Cm} {W : Addr → Prop} {H : Hp} {v : V} {d : D} {fp fq : List Addr} (h : Rep cm (Wp W fq) H v d fp) : Rep cm W H v d fp := h.move (fun a z => .inl (.inl z)) fun _ _ q _ _ => q
theorem Reps.toP {cm : Cm} {W : Addr → Prop} {H : Hp} {v : List V} {d : List D} {fp : List Addr} (h : Reps cm W H v d fp) : Reps cm (Wp W []) H v d fp := h.move (fun a z => .inl (z.resolve_right (fun m => nomatch m))) fun _ _ q _ _ => q
theorem Reps.ofP {cm : Cm} {W : Addr → Prop} {H : Hp} {v : List V} {d : List D} {fp fq : List Addr} (h : Reps cm (Wp W fq) H v d fp) : Reps cm W H v d fp := h.move (fun a z => .inl (.inl z)) fun _ _ q _ _ => q
theorem WOk.p {cm : Cm} {W : Addr → Prop} {H : Hp} {fp : List Addr} (w : WOk cm W H) (own : ∀ a ∈ fp, MutAt H a) : WOk cm (Wp W fp) H := ⟨fun a z => z.elim (w.1 a) (own a), w.2⟩
theorem FRep.p {cm : Cm} {W : Addr → Prop} {H H' : Hp} {σ : St} {r : Env} {fp : List Addr} (fr : FRep cm W H σ r) (e : Ex H H') (hf : ∀ a ∈ fp, H a = none) : FRep cm (Wp W fp) H' σ r := ⟨fr.1, fun i d h => by
  obtain ⟨v, h1, h2⟩ := fr.2 i d h
  exact ⟨v, h1, h2.move (fun a z => z.imp id (hf a)) fun a o q t _ => e.get a o q t⟩⟩
/-- what is asked of an expression's value -/
abbrev QP (cm : Cm) (W : Addr → Prop) (b : Bool) (H : Hp) (Q : VK) : D → Prop := fun d => ∀ v H' fp, Ex H H' → Rep cm (Wp W fp) H' v d fp → FpN b H fp → Q v H'
def ECon (cm : Cm) (E : XS) (b : Bool) (te : TE) (f : F) : Prop := ∀ W H σ r, WOk cm W H → FRep cm W H σ r → ∀ Q : VK, Post (f r) (QP cm W b H Q) (XPost cm (E σ) W H) → te σ H Q
/-- an expression without effect: it is worth what f tells -/
structure DE (X : Cx) (cm : Cm) (E : XS) (b : Bool) (e : Expr) (f : F) : Prop where
  ex : ∃ te, PE X e te ∧ ECon cm E b te f
abbrev QT (H : Hp) (Q : Bool → Hp → Prop) : Bool → Prop := fun b => ∀ H', Ex H H' → Q b H'
def TCon (cm : Cm) (E : XS) (tt : TT) (f : Env → Out Bool) : Prop := ∀ W H σ r, WOk cm W H → FRep cm W H σ r → ∀ Q, Post (f r) (QT H Q) (XPost cm (E σ) W H) → tt σ H Q
structure DT (X : Cx) (cm : Cm) (E : XS) (e : Expr) (f : Env → Out Bool) : Prop where
  ex : ∃ te, PT X e te ∧ TCon cm E te f
structure DW (X : Cx) (cm : Cm) (E : XS) (e : Expr) (f : Env → Out Bool) : Prop where
  ex : ∃ te, PW X e te ∧ TCon cm E te f
theorem DW.dt {X : Cx} {cm : Cm} {E : XS} {e : Expr} {f : Env → Out Bool} (h : DW X cm E e f) : DT X cm E e f := by
  obtain ⟨te, h1, h2⟩ := h.ex
  exact ⟨te, h1.pt, h2⟩
abbrev QA (cm : Cm) (W : Addr → Prop) (b : Bool) (H : Hp) (Q : List V → Hp → Prop) : List D → Prop := fun ds => ∀ vs H' fp, Ex H H' → Reps cm (Wp W fp) H' vs ds fp → FpN b H fp → Q vs H'
def ACon (cm : Cm) (E : XS) (b : Bool) (ta : TA) (f : Env → Out (List D)) : Prop := ∀ W H σ r, WOk cm W H → FRep cm W H σ r → ∀ Q, Post (f r) (QA cm W b H Q) (XPost cm (E σ) W H) → ta σ H Q
structure DA (X : Cx) (cm : Cm) (E : XS) (b : Bool) (es : List Expr) (f : Env → Out (List D)) : Prop where
  ex : ∃ ta, PA X es ta ∧ ACon cm E b ta f

/-! ### combinators -/
def cV (i : Nat) : F := fun r => match r[i]? with
  | some (some d) => .ok d
  | _ => .bad
def cK (d : D) : F := fun _ => .ok d
def c1 (g : D → Out D) (fa : F) : F := fun r => (fa r).bind g
def c2 (g : D → D → Out D) (fa fb : F) : F := fun r => (fa r).bind fun a => (fb r).bind fun b => g a b
def cFz (fa : F) : F := fun r => (fa r).bind fun a => .ok (frz a)
def aNil : Env → Out (List D) := fun _ => .ok []
def aCons (f : F) (g : Env → Out (List D)) : Env → Out (List D) := fun r => (f r).bind fun d => (g r).bind fun ds => .ok (d :: ds)
def cLst (g : Env → Out (List D)) : F := fun r => (g r).bind fun ds => if ds.length ≤ 1000 then .ok (.lst true ds) else .bad
def cTup (g : Env → Out (List D)) : F := fun r => (g r).bind fun ds => if ds.length ≤ 1000 then .ok (.tup ds) else .bad
def isB : D → Out Bool
  | .bl b => .ok b
  | _ => .bad
def tB (f : F) : Env → Out Bool := fun r => (f r).bind isB
def tAnd (f g : Env → Out Bool) : Env → Out Bool := fun r => (f r).bind fun b => if b = true then g r else .ok false
def tOr (f g : Env → Out Bool) : Env → Out Bool := fun r => (f r).bind fun b => if b = true then .ok true else g r
def tNot (f : Env → Out Bool) : Env → Out Bool := fun r => (f r).bind fun b => .ok (!b)
def cIf (t : Env → Out Bool) (f g : F) : F := fun r => (t r).bind fun b => if b = true then f r else g r
/-- a and b, a or b as values, a a truth -/
def cAnd (f g : F) : F := fun r => (f r).bind fun a => (isB a).bind fun b => if b = true then g r else .ok (.bl false)
def cOr (f g : F) : F := fun r => (f r).bind fun a => (isB a).bind fun b => if b = true then .ok (.bl true) else g r
def cNot (f : F) : F := fun r => (f r).bind fun a => (isB a).bind fun b => .ok (.bl (!b))

section
variable {X : Cx} {cm : Cm} {E : XS} {b : Bool} {pos : Pos}
theorem post_ok {α : Type} {a : α} {q : α → Prop} {e : Xc → Env → Prop} : Post (.ok a) q e = q a := rfl
theorem DE.up {e : Expr} {f : F} (h : DE X cm E b e f) : DE X cm E true e f := by
  obtain ⟨te, h1, h2⟩ := h.ex
  exact ⟨te, h1, fun W H σ r w fr Q hp => h2 W H σ r w fr Q (hp.mono (fun d q v H' fp ex rp fn => q v H' fp ex rp fn.up) fun _ _ z => z)⟩
theorem WOk.fresh {cm : Cm} {W : Addr → Prop} {H : Hp} (w : WOk cm W H) {a : Addr} (h : H a = none) : ¬ W a := fun q => (w.1 a q).there h
theorem de_fz {e : Expr} {f : F} (h : DE X cm E true e f) : DE X cm E b e (cFz f) := by
  obtain ⟨te, h1, h2⟩ := h.ex
  refine ⟨te, h1, fun W H σ r w fr Q hp => h2 W H σ r w fr Q (hp.bind.mono (fun d q v H' fp ex rp fn => ?_) fun _ _ z => z)⟩
  exact q v H' [] ex (rp.ofP.frz (fun _ z => z) fun a m => w.fresh (fn.2 a m)).toP FpN.nil
theorem de_var {i : Nat} {e : Expr} (h : PE X e (tVar i)) : DE X cm E b e (cV i) := by
  refine ⟨_, h, fun W H σ r w fr Q hp => ?_⟩
  unfold cV at hp
  split at hp
  · rename_i d hd
    obtain ⟨v, h1, h2⟩ := fr.2 i d hd
    exact ⟨v, h1, hp v H [] (Ex.refl H) h2.toP FpN.nil⟩
  · exact hp.elim
theorem de_con {v : V} {d : D} {e : Expr} (h : PE X e (tC v)) (hr : ∀ W H, Rep cm W H v d []) : DE X cm E b e (cK d) := ⟨_, h, fun W H σ r w fr Q hp => hp v H [] (Ex.refl H) (hr _ H) FpN.nil⟩
theorem de_int {i : Int} {j : Nat} : DE X cm E b (.Constant (.int i) j pos) (cK (.int i)) := de_con pe_int fun _ _ => .int i
theorem de_bl {i : Bool} {j : Nat} : DE X cm E b (.Constant (.bool i) j pos) (cK (.bl i)) := de_con pe_bl fun _ _ => .bl i
theorem de_non {j : Nat} : DE X cm E b (.Constant .none j pos) (cK .non) := de_con pe_non fun _ _ => .non
theorem de_str (cs : List Nat) {x : Str} {j : Nat} (h : x = ⟨cs.toArray⟩ := by decide +kernel) : DE X cm E b (.Constant (.str x) j pos) (cK (.str cs)) := by
  subst h
  exact de_con pe_str fun _ _ => .str cs

/-! operators by values: operands shared -/
def Op2 (X : Cx) (cm : Cm) (b : Bool) (f : Value → Value → Sem Value) (g : D → D → Out D) : Prop := ∃ r, OpR X f r ∧ ∀ W H x y dx dy, WOk cm W H → Rep cm W H x dx [] → Rep cm W H y dy [] → ∀ Q : VK, ∀ e, (∀ x r, ¬ e x r) → Post (g dx dy) (QP cm W b H Q) e → r x y H Q
def noX : Xc → Env → Prop := fun _ _ => False
def Op2' (cm : Cm) (b : Bool) (r : R2) (g : D → D → Out D) : Prop := ∀ W H x y dx dy, WOk cm W H → Rep cm W H x dx [] → Rep cm W H y dy [] → ∀ Q : VK, Post (g dx dy) (QP cm W b H Q) noX → r x y H Q
/-- g never raises -/
def NoEx (g : D → D → Out D) : Prop := ∀ a b x r, g a b ≠ .exn x r
theorem Post.noX {α : Type} {o : Out α} {q : α → Prop} {e : Xc → Env → Prop} (h : Post o q e) (n : ∀ x r, o ≠ .exn x r) : Post o q noX := by
  cases o with
  | ok a => exact h
  | exn x r => exact absurd rfl (n x r)
  | bad => exact h
theorem con2 {r : R2} {g : D → D → Out D} {ta tb : TE} {fa fb : F} (ho : Op2' cm b r g) (hn : NoEx g) (ha : ECon cm E false ta fa) (hb : ECon cm E false tb fb) : ECon cm E b (tOp r ta tb) (c2 g fa fb) := fun W H σ env w fr Q hp =>
  ha W H σ env w fr _ (hp.bind.mono (fun a q v H1 fp e1 r1 f1 => hb W H1 σ env (w.ex e1) (fr.ex e1) _ (q.bind.mono (fun c q2 u H2 fp2 e2 r2 f2 => by
    cases (show fp = [] from f1)
    cases (show fp2 = [] from f2)
    exact ho W H2 v u a c ((w.ex e1).ex e2) (r1.ex e2).ofP r2.ofP Q (Post.noX (q2.mono (fun d q3 z H3 fp3 e3 r3 f3 => q3 z H3 fp3 ((e1.trans e2).trans e3) r3 (f3.ex (e1.trans e2))) fun _ _ z => z) (hn a c))) fun x rr z => XPost.ex e1 z)) fun _ _ z => z)
theorem con1 {r : V → Hp → VK → Prop} {g : D → Out D} {ta : TE} {fa : F} (ho : ∀ W H x dx, WOk cm W H → Rep cm W H x dx [] → ∀ Q : VK, Post (g dx) (QP cm W b H Q) noX → r x H Q) (hn : ∀ a x rr, g a ≠ .exn x rr) (ha : ECon cm E false ta fa) : ECon cm E b (tUn r ta) (c1 g fa) := fun W H σ env w fr Q hp =>
  ha W H σ env w fr _ (hp.bind.mono (fun a q v H1 fp e1 r1 f1 => by
    cases (show fp = [] from f1)
    exact ho W H1 v a (w.ex e1) r1.ofP Q (Post.noX (q.mono (fun d q3 z H3 fp3 e3 r3 f3 => q3 z H3 fp3 (e1.trans e3) r3 (f3.ex e1)) fun _ _ z => z) (hn a))) fun _ _ z => z)
theorem de_op {a c : Expr} {op : Operator} {r : R2} {g : D → D → Out D} {fa fb : F} (hr : OpR X (binaryOp op) r) (ho : Op2' cm b r g) (hn : NoEx g) (ha : DE X cm E false a fa) (hb : DE X cm E false c fb) : DE X cm E b (.BinOp a op c pos) (c2 g fa fb) := by
  obtain ⟨ta, h1, h2⟩ := ha.ex
  obtain ⟨tb, h3, h4⟩ := hb.ex
  exact ⟨_, pe_op hr h1 h3, con2 ho hn h2 h4⟩
theorem de_cmp {a c : Expr} {op : CmpOp} {r : R2} {g : D → D → Out D} {fa fb : F} (hr : OpR X (compareOp op) r) (ho : Op2' cm b r g) (hn : NoEx g) (hm : behindInMarks op c = false) (ha : DE X cm E false a fa) (hb : DE X cm E false c fb) : DE X cm E b (.Compare a [op] [c] pos) (c2 g fa fb) := by
  obtain ⟨ta, h1, h2⟩ := ha.ex
  obtain ⟨tb, h3, h4⟩ := hb.ex
  exact ⟨_, pe_cmpR hr h1 h3 hm, con2 ho hn h2 h4⟩
theorem de_ix {a c : Expr} {r : R2} {g : D → D → Out D} {fa fb : F} (hr : IxR X r) (ho : Op2' cm b r g) (hn : NoEx g) (hs : PlainIx c) (ha : DE X cm E false a fa) (hb : DE X cm E false c fb) : DE X cm E b (.Subscript a c pos) (c2 g fa fb) := by
  obtain ⟨ta, h1, h2⟩ := ha.ex
  obtain ⟨tb, h3, h4⟩ := hb.ex
  exact ⟨_, pe_ix hr h1 h3 hs, con2 ho hn h2 h4⟩

/-! tests -/
theorem dt_B {e : Expr} {f : F} (h : DE X cm E false e f) (he : ∀ whole, isTrue e X.env whole = (do let v ← whole; standAt e.pos; holding [v] (truthy v)) := by intro _; rfl) : DT X cm E e (tB f) := by
  obtain ⟨te, h1, h2⟩ := h.ex
  refine ⟨_, pt_val h1 he, fun W H σ r w fr Q hp => h2 W H σ r w fr _ (hp.bind.mono (fun d q v H1 fp e1 r1 f1 => ?_) fun _ _ z => z)⟩
  cases d <;> first | exact q.elim | skip
  cases r1
  exact ⟨_, rfl, q H1 e1⟩
theorem dt_cmp {a c : Expr} {op : CmpOp} {r : R2} {g : D → D → Out D} {fa fb : F} (hr : OpR X (compareOp op) r) (ho : Op2' cm false r g) (hn : NoEx g) (hm : behindInMarks op c = false) (ha : DE X cm E false a fa) (hb : DE X cm E false c fb) : DT X cm E (.Compare a [op] [c] pos) (tB (c2 g fa fb)) := by
  obtain ⟨ta, h1, h2⟩ := ha.ex
  obtain ⟨tb, h3, h4⟩ := hb.ex
  refine ⟨_, pt_cmpR hr h1 h3 hm, fun W H σ r w fr Q hp => con2 ho hn h2 h4 W H σ r w fr _ (hp.bind.mono (fun d q v H1 fp e1 r1 f1 => ?_) fun _ _ z => z)⟩
  cases d <;> first | exact q.elim | skip
  cases r1
  exact ⟨_, rfl, q H1 e1⟩
theorem dt_not {e : Expr} {f : Env → Out Bool} (h : DT X cm E e f) : DT X cm E (.UnaryOp .Not e pos) (tNot f) := by
  obtain ⟨te, h1, h2⟩ := h.ex
  exact ⟨_, pt_not h1, fun W H σ r w fr Q hp => h2 W H σ r w fr _ (hp.bind.mono (fun d q H1 e1 => q H1 e1) fun _ _ z => z)⟩
theorem dw_and1 {a : Expr} {f : Env → Out Bool} (h : DT X cm E a f) : DW X cm E (.BoolOp .And [a] pos) f := by
  obtain ⟨te, h1, h2⟩ := h.ex
  exact ⟨_, pw_and1 h1, h2⟩
theorem dw_or1 {a : Expr} {f : Env → Out Bool} (h : DT X cm E a f) : DW X cm E (.BoolOp .Or [a] pos) f := by
  obtain ⟨te, h1, h2⟩ := h.ex
  exact ⟨_, pw_or1 h1, h2⟩
theorem dw_and {a c : Expr} {rest : List Expr} {f g : Env → Out Bool} (h : DT X cm E a f) (k : DW X cm E (.BoolOp .And (c :: rest) pos) g) : DW X cm E (.BoolOp .And (a :: c :: rest) pos) (tAnd f g) := by
  obtain ⟨te, h1, h2⟩ := h.ex
  obtain ⟨tf, k1, k2⟩ := k.ex
  refine ⟨_, pw_and h1 k1, fun W H σ r w fr Q hp => h2 W H σ r w fr _ (hp.bind.mono (fun d q H1 e1 => ?_) fun _ _ z => z)⟩
  cases d with
  | true => exact k2 W H1 σ r (w.ex e1) (fr.ex e1) Q (q.mono (fun b q2 H2 e2 => q2 H2 (e1.trans e2)) fun x rr z => XPost.ex e1 z)
  | false => exact q H1 e1
theorem dw_or {a c : Expr} {rest : List Expr} {f g : Env → Out Bool} (h : DT X cm E a f) (k : DW X cm E (.BoolOp .Or (c :: rest) pos) g) : DW X cm E (.BoolOp .Or (a :: c :: rest) pos) (tOr f g) := by
  obtain ⟨te, h1, h2⟩ := h.ex
  obtain ⟨tf, k1, k2⟩ := k.ex
  refine ⟨_, pw_or h1 k1, fun W H σ r w fr Q hp => h2 W H σ r w fr _ (hp.bind.mono (fun d q H1 e1 => ?_) fun _ _ z => z)⟩
  cases d with
  | true => exact q H1 e1
  | false => exact k2 W H1 σ r (w.ex e1) (fr.ex e1) Q (q.mono (fun b q2 H2 e2 => q2 H2 (e1.trans e2)) fun x rr z => XPost.ex e1 z)
/-! values of and, or, not, if else -/
theorem de_one {op : BoolOp} {a : Expr} {f : F} (h : DE X cm E b a f) : DE X cm E b (.BoolOp op [a] pos) f := by
  obtain ⟨te, h1, h2⟩ := h.ex
  exact ⟨_, pe_one h1, h2⟩
theorem de_and {a c : Expr} {rest : List Expr} {f g : F} (h : DE X cm E false a f) (k : DE X cm E b (.BoolOp .And (c :: rest) pos) g) : DE X cm E b (.BoolOp .And (a :: c :: rest) pos) (cAnd f g) := by
  obtain ⟨te, h1, h2⟩ := h.ex
  obtain ⟨tf, k1, k2⟩ := k.ex
  refine ⟨_, pe_and h1 k1, fun W H σ r w fr Q hp => h2 W H σ r w fr _ (hp.bind.mono (fun d q v H1 fp e1 r1 f1 => ?_) fun _ _ z => z)⟩
  cases d <;> first | exact q.elim | skip
  cases r1
  rename_i t
  refine ⟨t, rfl, ?_⟩
  cases t with
  | true => exact k2 W H1 σ r (w.ex e1) (fr.ex e1) Q (Post.mono q (fun d q2 v H2 fp e2 r2 f2 => q2 v H2 fp (e1.trans e2) r2 (f2.ex e1)) fun x rr z => XPost.ex e1 z)
  | false => exact q (.bl false) H1 [] e1 (.bl false) FpN.nil
theorem de_or {a c : Expr} {rest : List Expr} {f g : F} (h : DE X cm E false a f) (k : DE X cm E b (.BoolOp .Or (c :: rest) pos) g) : DE X cm E b (.BoolOp .Or (a :: c :: rest) pos) (cOr f g) := by
  obtain ⟨te, h1, h2⟩ := h.ex
  obtain ⟨tf, k1, k2⟩ := k.ex
  refine ⟨_, pe_or h1 k1, fun W H σ r w fr Q hp => h2 W H σ r w fr _ (hp.bind.mono (fun d q v H1 fp e1 r1 f1 => ?_) fun _ _ z => z)⟩
  cases d <;> first | exact q.elim | skip
  cases r1
  rename_i t
  refine ⟨t, rfl, ?_⟩
  cases t with
  | false => exact k2 W H1 σ r (w.ex e1) (fr.ex e1) Q (Post.mono q (fun d q2 v H2 fp e2 r2 f2 => q2 v H2 fp (e1.trans e2) r2 (f2.ex e1)) fun x rr z => XPost.ex e1 z)
  | true => exact q (.bl true) H1 [] e1 (.bl true) FpN.nil
theorem de_not {a : Expr} {f : F} (h : DE X cm E false a f) : DE X cm E b (.UnaryOp .Not a pos) (cNot f) := by
  obtain ⟨te, h1, h2⟩ := h.ex
  refine ⟨_, pe_not h1, fun W H σ r w fr Q hp => h2 W H σ r w fr _ (hp.bind.mono (fun d q v H1 fp e1 r1 f1 => ?_) fun _ _ z => z)⟩
  cases d <;> first | exact q.elim | skip
  cases r1
  exact ⟨_, rfl, q _ H1 [] e1 (.bl _) FpN.nil⟩
theorem de_if {t a c : Expr} {ft : Env → Out Bool} {f g : F} (ht : DT X cm E t ft) (h : DE X cm E b a f) (k : DE X cm E b c g) : DE X cm E b (.IfExp t a c pos) (cIf ft f g) := by
  obtain ⟨tt, t1, t2⟩ := ht.ex
  obtain ⟨te, h1, h2⟩ := h.ex
  obtain ⟨tf, k1, k2⟩ := k.ex
  refine ⟨_, pe_ifExp t1 h1 k1, fun W H σ r w fr Q hp => t2 W H σ r w fr _ (hp.bind.mono (fun d q H1 e1 => ?_) fun _ _ z => z)⟩
  cases d with
  | true => exact h2 W H1 σ r (w.ex e1) (fr.ex e1) Q (Post.mono q (fun d q2 v H2 fp e2 r2 f2 => q2 v H2 fp (e1.trans e2) r2 (f2.ex e1)) fun x rr z => XPost.ex e1 z)
  | false => exact k2 W H1 σ r (w.ex e1) (fr.ex e1) Q (Post.mono q (fun d q2 v H2 fp e2 r2 f2 => q2 v H2 fp (e1.trans e2) r2 (f2.ex e1)) fun x rr z => XPost.ex e1 z)
/-! arguments, displays -/
theorem da_nil : DA X cm E b [] aNil := ⟨_, pa_nil, fun W H σ r w fr Q hp => hp [] H [] (Ex.refl H) .nil FpN.nil⟩
theorem fpN_app {b : Bool} {H H1 : Hp} {fp fps : List Addr} (h1 : FpN b H fp) (own : ∀ a ∈ fp, H1 a ≠ none) (e : Ex H H1) (h2 : FpN b H1 fps) : FpN b H (fp ++ fps) := by
  cases b with
  | false => cases (show fp = [] from h1); exact h2
  | true =>
    refine ⟨List.nodup_append.mpr ⟨h1.1, h2.1, fun a m c n z => ?_⟩, fun a m => ?_⟩
    · subst z
      exact own a m (h2.2 a n)
    · rcases List.mem_append.mp m with m | m
      · exact h1.2 a m
      · exact e.back (h2.2 a m)
theorem da_cons {e : Expr} {es : List Expr} {f : F} {g : Env → Out (List D)} (h : DE X cm E b e f) (k : DA X cm E b es g) (hs : starEach (e :: es) X.env = (false, eval e X.env) :: starEach es X.env := by rfl) : DA X cm E b (e :: es) (aCons f g) := by
  obtain ⟨te, h1, h2⟩ := h.ex
  obtain ⟨tf, k1, k2⟩ := k.ex
  refine ⟨_, pa_cons h1 k1 hs, fun W H σ r w fr Q hp => h2 W H σ r w fr _ (hp.bind.mono (fun d q v H1 fp e1 r1 f1 => ?_) fun _ _ z => z)⟩
  have own1 := fun a (m : a ∈ fp) => r1.own a m
  have hf : ∀ a ∈ fp, H a = none := f1.up.2
  refine k2 (Wp W fp) H1 σ r ((w.ex e1).p (cm := cm) own1) (fr.p e1 hf) _ (q.bind.mono (fun ds q2 vs H2 fps e2 r2 f2 => q2 (v :: vs) H2 (fp ++ fps) (e1.trans e2) (.cons (r1.move (fun a z => ?_) fun a o z t _ => e2.get a o z t) (r2.move (fun a z => .inl ?_) fun _ _ z _ _ => z)) (fpN_app f1 (fun a m => (own1 a m).there) e1 f2)) fun x rr z => ?_)
  · rcases z with z | z
    · exact .inl (.inl z)
    · rcases List.mem_append.mp z with z | z
      · exact .inl (.inr z)
      · exact .inr (f2.up.2 a z)
  · rcases z with z | z
    · exact .inl (.inl z)
    · rcases List.mem_append.mp z with z | z
      · exact .inl (.inr z)
      · exact .inr z
  · exact fun H2 dx e2 xr => z H2 dx (e1.trans e2) (xr.weak fun a z => .inl z)
theorem small1000' {n : Nat} (h : n ≤ 1000) : n ≤ sizeLine := Nat.le_trans h (by decide)
theorem Reps.len {cm : Cm} {W : Addr → Prop} {H : Hp} : ∀ {vs : List V} {ds : List D} {fp : List Addr}, Reps cm W H vs ds fp → vs.length = ds.length
  | _, _, _, .nil => rfl
  | _, _, _, .cons _ r => by rw [List.length_cons, List.length_cons, r.len]
theorem fpN_cons {H H' : Hp} {p : Addr} {fp : List Addr} (e : Ex H H') (hp : H' p = none) (own : ∀ a ∈ fp, H' a ≠ none) (h : FpN true H fp) : FpN true H (p :: fp) :=
  ⟨List.nodup_cons.mpr ⟨fun m => own p m hp, h.1⟩, fun a m => by
    rcases List.mem_cons.mp m with rfl | m
    · exact e.back hp
    · exact h.2 a m⟩
theorem wp_cons {W : Addr → Prop} {H : Hp} {p : Addr} {fp : List Addr} (hp : H p = none) {a : Addr} (z : Wp W (p :: fp) a) : Wp W fp a ∨ H a = none := by
  rcases z with z | z
  · exact .inl (.inl z)
  · rcases List.mem_cons.mp z with rfl | z
    · exact .inr hp
    · exact .inl (.inr z)
theorem de_lst {es : List Expr} {g : Env → Out (List D)} (h : DA X cm E true es g) : DE X cm E true (.List es pos) (cLst g) := by
  obtain ⟨te, h1, h2⟩ := h.ex
  refine ⟨_, pe_lst h1, fun W H σ r w fr Q hp => h2 W H σ r w fr _ (hp.bind.mono (fun ds q vs H1 fp e1 r1 f1 => ?_) fun _ _ z => z)⟩
  split at q
  · rename_i hl
    refine ⟨by rw [r1.len]; exact small1000' hl, fun p hp => q (.ref p) _ (p :: fp) (e1.trans (Ex.new hp)) (.lstO upd_same (r1.move (fun a z => wp_cons hp z) fun a o z t _ => (Ex.new hp).get a o z t)) (fpN_cons e1 hp (fun a m => (r1.own a m).there) f1)⟩
  · exact q.elim
theorem de_tup {es : List Expr} {g : Env → Out (List D)} {x1} (h : DA X cm E b es g) : DE X cm E b (.Tuple es x1 pos) (cTup g) := by
  obtain ⟨te, h1, h2⟩ := h.ex
  refine ⟨_, pe_tup h1, fun W H σ r w fr Q hp => h2 W H σ r w fr _ (hp.bind.mono (fun ds q vs H1 fp e1 r1 f1 => ?_) fun _ _ z => z)⟩
  split at q
  · rename_i hl
    refine ⟨by rw [r1.len]; exact small1000' hl, fun p hp => q (.ref p) _ fp (e1.trans (Ex.new hp)) (.tup upd_same (fun z => z.elim ((w.ex e1).fresh hp) fun m => (r1.own p m).there hp) (r1.ex (Ex.new hp))) f1⟩
  · exact q.elim
end
end DL

namespace DL
variable [Tbs]
open PySem L2

/-! ### plain data -/
mutual
def plainD : D → Bool
  | .non => true
  | .bl _ => true
  | .int _ => true
  | .str _ => true
  | .lst _ xs => plainDs xs
  | .tup xs => plainDs xs
  | .dK _ _ _ => false
  | .dT _ _ _ => false
  | .obj _ _ _ _ => false
  | .scr _ => false
  | .exc _ _ _ => false
  | .any => false
def plainDs : List D → Bool
  | [] => true
  | x :: xs => plainD x && plainDs xs
end
mutual
def toPy : D → PyData
  | .non => .none
  | .bl b => .bool b
  | .int i => .int i
  | .str x => .str ⟨x.toArray⟩
  | .lst _ xs => .list (toPys xs)
  | .tup xs => .tuple (toPys xs)
  | .dK _ _ _ => .none
  | .dT _ _ _ => .none
  | .obj _ _ _ _ => .none
  | .scr _ => .none
  | .exc _ _ _ => .none
  | .any => .none
def toPys : List D → List PyData
  | [] => []
  | x :: xs => toPy x :: toPys xs
end
mutual
/-- lists and tuples are at most n deep -/
def dle : Nat → D → Bool
  | _, .non => true
  | _, .bl _ => true
  | _, .int _ => true
  | _, .str _ => true
  | 0, .lst _ _ => false
  | n + 1, .lst _ xs => dles n xs
  | 0, .tup _ => false
  | n + 1, .tup xs => dles n xs
  | _, .dK _ _ _ => true
  | _, .dT _ _ _ => true
  | _, .obj _ _ _ _ => true
  | _, .scr _ => true
  | _, .exc _ _ _ => true
  | _, .any => true
def dles : Nat → List D → Bool
  | _, [] => true
  | n, x :: xs => dle n x && dles n xs
end
mutual
def eqD : D → D → Bool
  | .non, .non => true
  | .bl a, .bl b => a == b
  | .bl a, .int j => (if a then 1 else 0) == j
  | .int i, .bl b => i == (if b then 1 else 0)
  | .int i, .int j => i == j
  | .str x, .str y => x == y
  | .lst _ xs, .lst _ ys => eqDs xs ys
  | .tup xs, .tup ys => eqDs xs ys
  | _, _ => false
def eqDs : List D → List D → Bool
  | [], [] => true
  | x :: xs, y :: ys => eqD x y && eqDs xs ys
  | [], _ :: _ => false
  | _ :: _, [] => false
end
theorem strEq (x y : List Nat) : ((⟨x.toArray⟩ : Str) == ⟨y.toArray⟩) = (x == y) := by
  by_cases h : x = y
  · subst h; simp
  · have : (⟨x.toArray⟩ : Str) ≠ ⟨y.toArray⟩ := fun q => h (by simpa using q)
    rw [beq_eq_false_iff_ne.mpr this, beq_eq_false_iff_ne.mpr h]
mutual
theorem eqD_py : ∀ a b : D, plainD a = true → plainD b = true → PyData.eqv (toPy a) (toPy b) = eqD a b
  | .lst _ xs, b, ha, hb => by
    cases b <;> first | rfl | (exact eqDs_py xs _ ha hb) | (cases hb)
  | .tup xs, b, ha, hb => by
    cases b <;> first | rfl | (exact eqDs_py xs _ ha hb) | (cases hb)
  | .non, b, _, hb => by cases b <;> first | rfl | cases hb
  | .bl _, b, _, hb => by cases b <;> first | rfl | cases hb
  | .int _, b, _, hb => by cases b <;> first | rfl | cases hb
  | .str x, b, _, hb => by
    cases b <;> first | rfl | exact strEq _ _ | (cases hb; done)
  | .dK _ _ _, _, h, _ => nomatch h
  | .dT _ _ _, _, h, _ => nomatch h
  | .obj _ _ _ _, _, h, _ => nomatch h
  | .scr _, _, h, _ => nomatch h
theorem eqDs_py : ∀ a b : List D, plainDs a = true → plainDs b = true → PyData.eqvAll (toPys a) (toPys b) = eqDs a b
  | [], b, _, _ => by cases b <;> rfl
  | x :: xs, b, ha, hb => by
    cases b with
    | nil => rfl
    | cons y ys =>
      simp only [plainDs, Bool.and_eq_true] at ha hb
      show (PyData.eqv (toPy x) (toPy y) && PyData.eqvAll (toPys xs) (toPys ys)) = (eqD x y && eqDs xs ys)
      rw [eqD_py x y ha.1 hb.1, eqDs_py xs ys ha.2 hb.2]
end
mutual
theorem plain_py : ∀ a : D, plainD a = true → (toPy a).plain = true
  | .lst _ xs, h => by exact plains_py xs h
  | .tup xs, h => by exact plains_py xs h
  | .non, _ => rfl
  | .bl _, _ => rfl
  | .int _, _ => rfl
  | .str x, _ => rfl
  | .dK _ _ _, h => nomatch h
  | .dT _ _ _, h => nomatch h
  | .obj _ _ _ _, h => nomatch h
  | .scr _, h => nomatch h
theorem plains_py : ∀ a : List D, plainDs a = true → PyData.plainAll (toPys a) = true
  | [], _ => rfl
  | x :: xs, h => by
    simp only [plainDs, Bool.and_eq_true] at h
    simp only [toPys, PyData.plainAll, plain_py x h.1, plains_py xs h.2, Bool.and_self]
end
mutual
theorem dle_py : ∀ (n : Nat) (a : D), plainD a = true → dle n a = true → (toPy a).depth ≤ n
  | n, .lst _ xs, hp, h => by
    cases n with
    | zero => cases h
    | succ n => have := dles_py n xs hp h; simp only [toPy, PyData.depth]; omega
  | n, .tup xs, hp, h => by
    cases n with
    | zero => cases h
    | succ n => have := dles_py n xs hp h; simp only [toPy, PyData.depth]; omega
  | n, .non, _, _ => by simp [toPy, PyData.depth]
  | n, .bl _, _, _ => by simp [toPy, PyData.depth]
  | n, .int _, _, _ => by simp [toPy, PyData.depth]
  | n, .str x, _, _ => by simp [toPy, PyData.depth]
  | _, .dK _ _ _, h, _ => nomatch h
  | _, .dT _ _ _, h, _ => nomatch h
  | _, .obj _ _ _ _, h, _ => nomatch h
  | _, .scr _, h, _ => nomatch h
theorem dles_py : ∀ (n : Nat) (a : List D), plainDs a = true → dles n a = true → PyData.depthAll (toPys a) ≤ n
  | n, [], _, _ => by simp [toPys, PyData.depthAll]
  | n, x :: xs, hp, h => by
    simp only [plainDs, dles, Bool.and_eq_true] at h hp
    have h1 := dle_py n x hp.1 h.1
    have h2 := dles_py n xs hp.2 h.2
    simp only [toPys, PyData.depthAll]
    omega
end
mutual
theorem Rep.dp {cm : Cm} {W : Addr → Prop} {H : Hp} {K : PySem.W.Frag} : ∀ {v : V} {d : D} {fp : List Addr}, Rep cm W H v d fp → plainD d = true → Dp K H v (toPy d)
  | _, _, _, .non, _ => .non
  | _, _, _, .bl b, _ => .bl b
  | _, _, _, .int i, _ => .int i
  | _, _, _, .str x, _ => .str _
  | _, _, _, .lstO h r, e => .lst (SqL.of h) (Reps.dp r e)
  | _, _, _, .lstF h n r, e => .lst (SqL.of h) (Reps.dp r e)
  | _, _, _, .tup h n r, e => .tup (SqT.of h) (Reps.dp r e)
  | _, _, _, .dKO h l r, e => nomatch e
  | _, _, _, .dKF h l n r, e => nomatch e
  | _, _, _, .dTO h l r, e => nomatch e
  | _, _, _, .dTF h l n r, e => nomatch e
  | _, _, _, .objO h l r, e => nomatch e
  | _, _, _, .objF h l n r, e => nomatch e
  | _, _, _, .scrF h n, e => nomatch e
  | _, _, _, .scrK h, e => nomatch e
theorem Reps.dp {cm : Cm} {W : Addr → Prop} {H : Hp} {K : PySem.W.Frag} : ∀ {v : List V} {d : List D} {fp : List Addr}, Reps cm W H v d fp → plainDs d = true → DpAll K H v (toPys d)
  | _, _, _, .nil, _ => .nil
  | _, _, _, .cons h r, e => by
    simp only [plainDs, Bool.and_eq_true] at e
    exact .cons (Rep.dp h e.1) (Reps.dp r e.2)
end

section
variable {X : Cx} {cm : Cm} {E : XS} {b : Bool} {pos : Pos}
/-! ### == and != of plain data -/
def rEqP (K : PySem.W.Frag) (neg : Bool) : R2 := fun x y H Q => ∃ d e, Dp K H x d ∧ Dp K H y e ∧ d.plain = true ∧ e.plain = true ∧ d.depth ≤ 60 ∧ Q (.bl (PyData.eqv d e != neg)) H
theorem op_eqP (hu : X.A.units + 64 < cLine) : OpR X (compareOp .Eq) (rEqP X.K false) := by
  intro pins s σ H x y v u Q I rx ry h
  obtain ⟨d, e, hd, he, sd, se, hl, q⟩ := h
  obtain ⟨as, r1⟩ := Dp.reads I d x v hd rx
  obtain ⟨bs, r2⟩ := Dp.reads I e y u he ry
  have : min d.depth e.depth ≤ d.depth := Nat.min_le_left _ _
  exact SeqAt.eq_plain r1 r2 sd se (by omega) ⟨.bl _, H, I, rfl, by simpa using q⟩
theorem op_neP (hu : X.A.units + 64 < cLine) : OpR X (compareOp .NotEq) (rEqP X.K true) := by
  intro pins s σ H x y v u Q I rx ry h
  obtain ⟨d, e, hd, he, sd, se, hl, q⟩ := h
  obtain ⟨as, r1⟩ := Dp.reads I d x v hd rx
  obtain ⟨bs, r2⟩ := Dp.reads I e y u he ry
  have : min d.depth e.depth ≤ d.depth := Nat.min_le_left _ _
  exact SeqAt.ne_plain r1 r2 sd se (by omega) ⟨.bl _, H, I, rfl, by simpa using q⟩
def eqOk (x y : D) : Bool := plainD x && plainD y && dle 60 x
def gEq : D → D → Out D := fun x y => if eqOk x y = true then .ok (.bl (eqD x y)) else .bad
def gNe : D → D → Out D := fun x y => if eqOk x y = true then .ok (.bl (!eqD x y)) else .bad
theorem noEx_ite {c : D → D → Bool} {g : D → D → D} : NoEx (fun a b => if c a b = true then .ok (g a b) else .bad) := fun a b x r h => by
  dsimp only at h
  split at h <;> cases h
theorem o_eq : Op2' cm b (rEqP X.K false) gEq := fun W H x y dx dy w rx ry Q hp => by
  unfold gEq at hp
  split at hp
  · rename_i h
    simp only [eqOk, Bool.and_eq_true] at h
    refine ⟨toPy dx, toPy dy, rx.dp h.1.1, ry.dp h.1.2, plain_py _ h.1.1, plain_py _ h.1.2, dle_py _ _ h.1.1 h.2, ?_⟩
    rw [eqD_py _ _ h.1.1 h.1.2]
    simp only [Bool.bne_false]
    exact hp _ H [] (Ex.refl H) (.bl _) FpN.nil
  · exact hp.elim
theorem o_ne : Op2' cm b (rEqP X.K true) gNe := fun W H x y dx dy w rx ry Q hp => by
  unfold gNe at hp
  split at hp
  · rename_i h
    simp only [eqOk, Bool.and_eq_true] at h
    refine ⟨toPy dx, toPy dy, rx.dp h.1.1, ry.dp h.1.2, plain_py _ h.1.1, plain_py _ h.1.2, dle_py _ _ h.1.1 h.2, ?_⟩
    rw [eqD_py _ _ h.1.1 h.1.2]
    simp only [Bool.bne_true]
    exact hp _ H [] (Ex.refl H) (.bl _) FpN.nil
  · exact hp.elim
theorem de_eq {a c : Expr} {fa fb : F} (hu : X.A.units + 64 < cLine) (ha : DE X cm E false a fa) (hb : DE X cm E false c fb) : DE X cm E b (.Compare a [.Eq] [c] pos) (c2 gEq fa fb) := de_cmp (op_eqP hu) o_eq noEx_ite (nomark _) ha hb
theorem de_ne {a c : Expr} {fa fb : F} (hu : X.A.units + 64 < cLine) (ha : DE X cm E false a fa) (hb : DE X cm E false c fb) : DE X cm E b (.Compare a [.NotEq] [c] pos) (c2 gNe fa fb) := de_cmp (op_neP hu) o_ne noEx_ite (nomark _) ha hb
theorem dt_eq {a c : Expr} {fa fb : F} (hu : X.A.units + 64 < cLine) (ha : DE X cm E false a fa) (hb : DE X cm E false c fb) : DT X cm E (.Compare a [.Eq] [c] pos) (tB (c2 gEq fa fb)) := dt_cmp (op_eqP hu) o_eq noEx_ite (nomark _) ha hb
theorem dt_ne {a c : Expr} {fa fb : F} (hu : X.A.units + 64 < cLine) (ha : DE X cm E false a fa) (hb : DE X cm E false c fb) : DT X cm E (.Compare a [.NotEq] [c] pos) (tB (c2 gNe fa fb)) := dt_cmp (op_neP hu) o_ne noEx_ite (nomark _) ha hb

/-! ### in, not in: a plain thing in a list or tuple of such; one sign in a text -/
def inD (x : D) (xs : List D) : Bool := xs.any fun y => eqD y x
def rInP (K : PySem.W.Frag) (neg : Bool) : R2 := fun x y H Q =>
  (∃ d ds, Dp K H x d ∧ (Dp K H y (.list ds) ∨ Dp K H y (.tuple ds)) ∧ d.plain = true ∧ PyData.plainAll ds = true ∧ d.depth ≤ 60 ∧ Q (.bl ((ds.any fun z => PyData.eqv z d) != neg)) H)
theorem op_inP (hu : X.A.units + 64 < cLine) : OpR X (compareOp .In) (rInP X.K false) := by
  intro pins s σ H x y v u Q I rx ry h
  obtain ⟨d, ds, hd, he, sd, se, hl, q⟩ := h
  obtain ⟨as, r1⟩ := Dp.reads I d x v hd rx
  have : min (PyData.depthAll ds) d.depth ≤ d.depth := Nat.min_le_right _ _
  rcases he with he | he
  · obtain ⟨bs, r2⟩ := Dp.reads I _ y u he ry
    exact SeqAt.in_list_data r2 r1 se sd (by omega) ⟨.bl _, H, I, rfl, by simpa using q⟩
  · obtain ⟨bs, r2⟩ := Dp.reads I _ y u he ry
    exact SeqAt.in_tuple_data r2 r1 se sd (by omega) ⟨.bl _, H, I, rfl, by simpa using q⟩
theorem op_niP (hu : X.A.units + 64 < cLine) : OpR X (compareOp .NotIn) (rInP X.K true) := by
  intro pins s σ H x y v u Q I rx ry h
  obtain ⟨d, ds, hd, he, sd, se, hl, q⟩ := h
  obtain ⟨as, r1⟩ := Dp.reads I d x v hd rx
  have : min (PyData.depthAll ds) d.depth ≤ d.depth := Nat.min_le_right _ _
  rcases he with he | he
  · obtain ⟨bs, r2⟩ := Dp.reads I _ y u he ry
    exact SeqAt.notIn_list_data r2 r1 se sd (by omega) ⟨.bl _, H, I, rfl, by simpa using q⟩
  · obtain ⟨bs, r2⟩ := Dp.reads I _ y u he ry
    exact SeqAt.notIn_tuple_data r2 r1 se sd (by omega) ⟨.bl _, H, I, rfl, by simpa using q⟩
theorem any_py (x : D) (hx : plainD x = true) : ∀ xs : List D, plainDs xs = true → ((toPys xs).any fun z => PyData.eqv z (toPy x)) = inD x xs
  | [], _ => rfl
  | y :: ys, h => by
    simp only [plainDs, Bool.and_eq_true] at h
    simp only [toPys, List.any_cons, inD, eqD_py y x h.1 hx]
    have := any_py x hx ys h.2
    simp only [inD] at this
    rw [this]
def gIn (neg : Bool) : D → D → Out D := fun x y => match y with
  | .lst _ xs => if (plainD x && plainDs xs && dle 60 x) = true then .ok (.bl (inD x xs != neg)) else .bad
  | .tup xs => if (plainD x && plainDs xs && dle 60 x) = true then .ok (.bl (inD x xs != neg)) else .bad
  | .str cs => match x with
    | .str [c] => .ok (.bl (cs.contains c != neg))
    | _ => .bad
  | _ => .bad
theorem noEx_in {neg : Bool} : NoEx (gIn neg) := fun a b x r h => by
  unfold gIn at h
  split at h
  · split at h <;> cases h
  · split at h <;> cases h
  · split at h <;> cases h
  · cases h
def rInS (K : PySem.W.Frag) (neg : Bool) : R2 := fun x y H Q => rInP K neg x y H Q ∨ ∃ (c : Nat) (z : Str), x = .str ⟨#[c]⟩ ∧ y = .str z ∧ Q (.bl (decide (c ∈ z.cps.toList) != neg)) H
theorem op_inS (hu : X.A.units + 64 < cLine) : OpR X (compareOp .In) (rInS X.K false) := (op_inP hu).or (by
  intro pins s σ H x y v u Q I rx ry h
  obtain ⟨c, z, e1, e2, q⟩ := h
  exact op_in_sign pins s σ H x y v u Q I rx ry ⟨c, z, e1, e2, by simpa using q⟩)
theorem op_niS (hu : X.A.units + 64 < cLine) : OpR X (compareOp .NotIn) (rInS X.K true) := (op_niP hu).or (by
  intro pins s σ H x y v u Q I rx ry h
  obtain ⟨c, z, e1, e2, q⟩ := h
  exact op_notIn_sign pins s σ H x y v u Q I rx ry ⟨c, z, e1, e2, by simpa using q⟩)
theorem o_in {neg : Bool} : Op2' cm b (rInS X.K neg) (gIn neg) := fun W H x y dx dy w rx ry Q hp => by
  unfold gIn at hp
  split at hp
  · split at hp
    · rename_i h
      simp only [Bool.and_eq_true] at h
      refine .inl ⟨toPy dx, toPys _, rx.dp h.1.1, .inl (ry.dp h.1.2), plain_py _ h.1.1, plains_py _ h.1.2, dle_py _ _ h.1.1 h.2, ?_⟩
      rw [any_py _ h.1.1 _ h.1.2]
      exact hp _ H [] (Ex.refl H) (.bl _) FpN.nil
    · exact hp.elim
  · split at hp
    · rename_i h
      simp only [Bool.and_eq_true] at h
      refine .inl ⟨toPy dx, toPys _, rx.dp h.1.1, .inr (ry.dp h.1.2), plain_py _ h.1.1, plains_py _ h.1.2, dle_py _ _ h.1.1 h.2, ?_⟩
      rw [any_py _ h.1.1 _ h.1.2]
      exact hp _ H [] (Ex.refl H) (.bl _) FpN.nil
    · exact hp.elim
  · split at hp
    · cases rx
      cases ry
      refine .inr ⟨_, _, rfl, rfl, ?_⟩
      rw [show ∀ (c : Nat) (cs : List Nat), decide (c ∈ cs.toArray.toList) = cs.contains c from fun c cs => by simp]
      exact hp _ H [] (Ex.refl H) (.bl _) FpN.nil
    · exact hp.elim
  · exact hp.elim
theorem de_in {a c : Expr} {fa fb : F} (hu : X.A.units + 64 < cLine) (ha : DE X cm E false a fa) (hb : DE X cm E false c fb) (hm : behindInMarks .In c = false := by rfl) : DE X cm E b (.Compare a [.In] [c] pos) (c2 (gIn false) fa fb) := de_cmp (op_inS hu) o_in noEx_in hm ha hb
theorem de_ni {a c : Expr} {fa fb : F} (hu : X.A.units + 64 < cLine) (ha : DE X cm E false a fa) (hb : DE X cm E false c fb) (hm : behindInMarks .NotIn c = false := by rfl) : DE X cm E b (.Compare a [.NotIn] [c] pos) (c2 (gIn true) fa fb) := de_cmp (op_niS hu) o_in noEx_in hm ha hb
theorem dt_in {a c : Expr} {fa fb : F} (hu : X.A.units + 64 < cLine) (ha : DE X cm E false a fa) (hb : DE X cm E false c fb) (hm : behindInMarks .In c = false := by rfl) : DT X cm E (.Compare a [.In] [c] pos) (tB (c2 (gIn false) fa fb)) := dt_cmp (op_inS hu) o_in noEx_in hm ha hb
theorem dt_ni {a c : Expr} {fa fb : F} (hu : X.A.units + 64 < cLine) (ha : DE X cm E false a fa) (hb : DE X cm E false c fb) (hm : behindInMarks .NotIn c = false := by rfl) : DT X cm E (.Compare a [.NotIn] [c] pos) (tB (c2 (gIn true) fa fb)) := dt_cmp (op_niS hu) o_in noEx_in hm ha hb
end
end DL

namespace DL
variable [Tbs]
open PySem L2
section
variable {X : Cx} {cm : Cm} {E : XS} {b : Bool} {pos : Pos}

/-! ### ints -/
instance instCMul (i j : Int) : Decidable (CMul i j) := by unfold CMul; infer_instance
instance instCDiv (i j : Int) : Decidable (CDiv i j) := by unfold CDiv; infer_instance
instance instCPow (i j : Int) : Decidable (CPow i j) := by unfold CPow; infer_instance
def gI (C : Int → Int → Prop) [∀ i j, Decidable (C i j)] (g : Int → Int → D) : D → D → Out D := fun x y => match x, y with
  | .int i, .int j => if C i j then .ok (g i j) else .bad
  | _, _ => .bad
def gI0 (g : Int → Int → D) : D → D → Out D := fun x y => match x, y with
  | .int i, .int j => .ok (g i j)
  | _, _ => .bad
theorem noEx_I {C : Int → Int → Prop} [∀ i j, Decidable (C i j)] {g : Int → Int → D} : NoEx (gI C g) := fun a b x r h => by
  unfold gI at h
  split at h
  · split at h <;> cases h
  · cases h
theorem noEx_I0 {g : Int → Int → D} : NoEx (gI0 g) := fun a b x r h => by
  unfold gI0 at h
  split at h <;> cases h
theorem o_I {C : Int → Int → Prop} [∀ i j, Decidable (C i j)] {g : Int → Int → Int} : Op2' cm b (rI C fun i j => .int (g i j)) (gI C fun i j => .int (g i j)) := fun W H x y dx dy w rx ry Q hp => by
  unfold gI at hp
  split at hp
  · split at hp
    · cases rx; cases ry
      exact ⟨_, _, rfl, rfl, by assumption, hp _ H [] (Ex.refl H) (.int _) FpN.nil⟩
    · exact hp.elim
  · exact hp.elim
theorem o_I0 {g : Int → Int → Int} : Op2' cm b (rI0 fun i j => .int (g i j)) (gI0 fun i j => .int (g i j)) := fun W H x y dx dy w rx ry Q hp => by
  unfold gI0 at hp
  split at hp
  · cases rx; cases ry
    exact ⟨_, _, rfl, rfl, hp _ H [] (Ex.refl H) (.int _) FpN.nil⟩
  · exact hp.elim
theorem o_B0 {g : Int → Int → Bool} : Op2' cm b (rI0 fun i j => .bl (g i j)) (gI0 fun i j => .bl (g i j)) := fun W H x y dx dy w rx ry Q hp => by
  unfold gI0 at hp
  split at hp
  · cases rx; cases ry
    exact ⟨_, _, rfl, rfl, hp _ H [] (Ex.refl H) (.bl _) FpN.nil⟩
  · exact hp.elim
abbrev gAddI := gI0 fun i j => .int (i + j)
abbrev gSubI := gI0 fun i j => .int (i - j)
abbrev gMulI := gI CMul fun i j => .int (i * j)
abbrev gModI := gI (fun _ j => 0 < j) fun i j => .int (i % j)
abbrev gFdvI := gI CDiv fun i j => .int (i / j)
abbrev gPowI := gI CPow fun i j => .int (i ^ j.toNat)
abbrev gShlI := gI CPow fun i j => .int (i * 2 ^ j.toNat)
abbrev gLt := gI0 fun i j => .bl (decide (i < j))
abbrev gLe := gI0 fun i j => .bl (decide (i ≤ j))
abbrev gGt := gI0 fun i j => .bl (decide (j < i))
abbrev gGe := gI0 fun i j => .bl (decide (j ≤ i))
variable {a c : Expr} {fa fb : F}
theorem de_addI (ha : DE X cm E false a fa) (hb : DE X cm E false c fb) : DE X cm E b (.BinOp a .Add c pos) (c2 gAddI fa fb) := de_op op_add o_I0 noEx_I0 ha hb
theorem de_subI (ha : DE X cm E false a fa) (hb : DE X cm E false c fb) : DE X cm E b (.BinOp a .Sub c pos) (c2 gSubI fa fb) := de_op op_sub o_I0 noEx_I0 ha hb
theorem de_mulI (ha : DE X cm E false a fa) (hb : DE X cm E false c fb) : DE X cm E b (.BinOp a .Mult c pos) (c2 gMulI fa fb) := de_op op_mul o_I noEx_I ha hb
theorem de_modI (ha : DE X cm E false a fa) (hb : DE X cm E false c fb) : DE X cm E b (.BinOp a .Mod c pos) (c2 gModI fa fb) := de_op op_mod o_I noEx_I ha hb
theorem de_fdvI (ha : DE X cm E false a fa) (hb : DE X cm E false c fb) : DE X cm E b (.BinOp a .FloorDiv c pos) (c2 gFdvI fa fb) := de_op op_fdiv o_I noEx_I ha hb
theorem de_powI (ha : DE X cm E false a fa) (hb : DE X cm E false c fb) : DE X cm E b (.BinOp a .Pow c pos) (c2 gPowI fa fb) := de_op op_pow o_I noEx_I ha hb
theorem de_shlI (ha : DE X cm E false a fa) (hb : DE X cm E false c fb) : DE X cm E b (.BinOp a .LShift c pos) (c2 gShlI fa fb) := de_op op_shl o_I noEx_I ha hb
theorem de_lt (ha : DE X cm E false a fa) (hb : DE X cm E false c fb) : DE X cm E b (.Compare a [.Lt] [c] pos) (c2 gLt fa fb) := de_cmp op_lt o_B0 noEx_I0 (nomark _) ha hb
theorem de_le (ha : DE X cm E false a fa) (hb : DE X cm E false c fb) : DE X cm E b (.Compare a [.LtE] [c] pos) (c2 gLe fa fb) := de_cmp op_le o_B0 noEx_I0 (nomark _) ha hb
theorem de_gt (ha : DE X cm E false a fa) (hb : DE X cm E false c fb) : DE X cm E b (.Compare a [.Gt] [c] pos) (c2 gGt fa fb) := de_cmp op_gt o_B0 noEx_I0 (nomark _) ha hb
theorem de_ge (ha : DE X cm E false a fa) (hb : DE X cm E false c fb) : DE X cm E b (.Compare a [.GtE] [c] pos) (c2 gGe fa fb) := de_cmp op_ge o_B0 noEx_I0 (nomark _) ha hb
theorem dt_lt (ha : DE X cm E false a fa) (hb : DE X cm E false c fb) : DT X cm E (.Compare a [.Lt] [c] pos) (tB (c2 gLt fa fb)) := dt_cmp op_lt o_B0 noEx_I0 (nomark _) ha hb
theorem dt_le (ha : DE X cm E false a fa) (hb : DE X cm E false c fb) : DT X cm E (.Compare a [.LtE] [c] pos) (tB (c2 gLe fa fb)) := dt_cmp op_le o_B0 noEx_I0 (nomark _) ha hb
theorem dt_gt (ha : DE X cm E false a fa) (hb : DE X cm E false c fb) : DT X cm E (.Compare a [.Gt] [c] pos) (tB (c2 gGt fa fb)) := dt_cmp op_gt o_B0 noEx_I0 (nomark _) ha hb
theorem dt_ge (ha : DE X cm E false a fa) (hb : DE X cm E false c fb) : DT X cm E (.Compare a [.GtE] [c] pos) (tB (c2 gGe fa fb)) := dt_cmp op_ge o_B0 noEx_I0 (nomark _) ha hb
def gNeg : D → Out D
  | .int i => .ok (.int (-i))
  | _ => .bad
theorem de_neg (ha : DE X cm E false a fa) : DE X cm E b (.UnaryOp .USub a pos) (c1 gNeg fa) := by
  obtain ⟨ta, h1, h2⟩ := ha.ex
  refine ⟨_, pe_un un_neg h1, con1 (fun W H x dx w rx Q hp => ?_) (fun a x rr h => by unfold gNeg at h; split at h <;> cases h) h2⟩
  unfold gNeg at hp
  split at hp
  · cases rx
    exact ⟨_, rfl, hp _ H [] (Ex.refl H) (.int _) FpN.nil⟩
  · exact hp.elim
/-! a <= b < c -/
def c3 (g g' : D → D → Out D) (fa fb fc : F) : F := fun r => (fa r).bind fun a => (fb r).bind fun b => (g a b).bind fun z => (isB z).bind fun k => if k = true then (fc r).bind fun c => g' b c else .ok (.bl false)
theorem con3 {ta tb tc : TE} {fc : F} {r r' : R2} {g g' : D → D → Out D} (ho : Op2' cm false r g) (ho' : Op2' cm b r' g') (hn : NoEx g) (hn' : NoEx g') (h2 : ECon cm E false ta fa) (h4 : ECon cm E false tb fb) (h6 : ECon cm E false tc fc) : ECon cm E b (tChain r r' ta tb tc) (c3 g g' fa fb fc) := by
  refine fun W H σ env w fr Q hp => h2 W H σ env w fr _ (hp.bind.mono (fun a q v H1 fp e1 r1 f1 => h4 W H1 σ env (w.ex e1) (fr.ex e1) _ (q.bind.mono (fun c q2 u H2 fp2 e2 r2 f2 => ?_) fun x rr z => XPost.ex e1 z)) fun _ _ z => z)
  cases (show fp = [] from f1)
  cases (show fp2 = [] from f2)
  refine ho W H2 v u a c ((w.ex e1).ex e2) (r1.ex e2).ofP r2.ofP _ (Post.noX (q2.bind.mono (fun d q3 z H3 fp3 e3 r3 f3 => ?_) fun _ _ z => z) (hn a c))
  cases d <;> first | exact q3.elim | skip
  cases r3
  rename_i k
  refine ⟨k, rfl, ?_⟩
  cases k with
  | true =>
    refine h6 W H3 σ env (((w.ex e1).ex e2).ex e3) (((fr.ex e1).ex e2).ex e3) _ ((Post.bind (o := fc env) q3).mono (fun d q4 v4 H4 fp4 e4 r4 f4 => ?_) fun x rr z => XPost.ex ((e1.trans e2).trans e3) z)
    cases (show fp4 = [] from f4)
    exact ho' W H4 u v4 c d ((((w.ex e1).ex e2).ex e3).ex e4) ((r2.ex e3).ex e4).ofP r4.ofP Q (Post.noX (q4.mono (fun d q5 z H5 fp5 e5 r5 f5 => q5 z H5 fp5 ((((e1.trans e2).trans e3).trans e4).trans e5) r5 (f5.ex (((e1.trans e2).trans e3).trans e4))) fun _ _ z => z) (hn' c d))
  | false => exact q3 (.bl false) H3 [] ((e1.trans e2).trans e3) (.bl false) FpN.nil
theorem de_chain {d : Expr} {fc : F} {op op' : CmpOp} {r r' : R2} {g g' : D → D → Out D} (hr : OpR X (compareOp op) r) (hr' : OpR X (compareOp op') r') (ho : Op2' cm false r g) (ho' : Op2' cm b r' g') (hn : NoEx g) (hn' : NoEx g') (ha : DE X cm E false a fa) (hb : DE X cm E false c fb) (hd : DE X cm E false d fc)
    (hm : lastMarks [op, op'] [c, d] = false := by with_unfolding_all rfl) : DE X cm E b (.Compare a [op, op'] [c, d] pos) (c3 g g' fa fb fc) := by
  obtain ⟨ta, h1, h2⟩ := ha.ex
  obtain ⟨tb, h3, h4⟩ := hb.ex
  obtain ⟨tc, h5, h6⟩ := hd.ex
  exact ⟨_, pe_chain hr hr' h1 h3 h5 hm, con3 ho ho' hn hn' h2 h4 h6⟩
theorem dt_chain {d : Expr} {fc : F} {op op' : CmpOp} {r r' : R2} {g g' : D → D → Out D} (hr : OpR X (compareOp op) r) (hr' : OpR X (compareOp op') r') (ho : Op2' cm false r g) (ho' : Op2' cm false r' g') (hn : NoEx g) (hn' : NoEx g') (ha : DE X cm E false a fa) (hb : DE X cm E false c fb) (hd : DE X cm E false d fc)
    (hm : lastMarks [op, op'] [c, d] = false := by with_unfolding_all rfl) : DT X cm E (.Compare a [op, op'] [c, d] pos) (tB (c3 g g' fa fb fc)) := by
  obtain ⟨ta, h1, h2⟩ := ha.ex
  obtain ⟨tb, h3, h4⟩ := hb.ex
  obtain ⟨tc, h5, h6⟩ := hd.ex
  refine ⟨_, pt_chain hr hr' h1 h3 h5 hm, fun W H σ r w fr Q hp => con3 ho ho' hn hn' h2 h4 h6 W H σ r w fr _ (hp.bind.mono (fun d q v H1 fp e1 r1 f1 => ?_) fun _ _ z => z)⟩
  cases d <;> first | exact q.elim | skip
  cases r1
  exact ⟨_, rfl, q H1 e1⟩
theorem dt_lele {d : Expr} {fc : F} (ha : DE X cm E false a fa) (hb : DE X cm E false c fb) (hd : DE X cm E false d fc) (hm : lastMarks [.LtE, .LtE] [c, d] = false := by with_unfolding_all rfl) : DT X cm E (.Compare a [.LtE, .LtE] [c, d] pos) (tB (c3 gLe gLe fa fb fc)) := dt_chain op_le op_le o_B0 o_B0 noEx_I0 noEx_I0 ha hb hd hm
theorem dt_lelt {d : Expr} {fc : F} (ha : DE X cm E false a fa) (hb : DE X cm E false c fb) (hd : DE X cm E false d fc) (hm : lastMarks [.LtE, .Lt] [c, d] = false := by with_unfolding_all rfl) : DT X cm E (.Compare a [.LtE, .Lt] [c, d] pos) (tB (c3 gLe gLt fa fb fc)) := dt_chain op_le op_lt o_B0 o_B0 noEx_I0 noEx_I0 ha hb hd hm
theorem de_lele {d : Expr} {fc : F} (ha : DE X cm E false a fa) (hb : DE X cm E false c fb) (hd : DE X cm E false d fc) (hm : lastMarks [.LtE, .LtE] [c, d] = false := by with_unfolding_all rfl) : DE X cm E b (.Compare a [.LtE, .LtE] [c, d] pos) (c3 gLe gLe fa fb fc) := de_chain op_le op_le o_B0 o_B0 noEx_I0 noEx_I0 ha hb hd hm
theorem de_lelt {d : Expr} {fc : F} (ha : DE X cm E false a fa) (hb : DE X cm E false c fb) (hd : DE X cm E false d fc) (hm : lastMarks [.LtE, .Lt] [c, d] = false := by with_unfolding_all rfl) : DE X cm E b (.Compare a [.LtE, .Lt] [c, d] pos) (c3 gLe gLt fa fb fc) := de_chain op_le op_lt o_B0 o_B0 noEx_I0 noEx_I0 ha hb hd hm

/-! ### texts -/
theorem strApp (x y : List Nat) : (⟨x.toArray⟩ : Str) ++ ⟨y.toArray⟩ = ⟨(x ++ y).toArray⟩ := by
  show (⟨x.toArray ++ y.toArray⟩ : Str) = _
  rw [List.append_toArray]
theorem strLen (x : List Nat) : (⟨x.toArray⟩ : Str).length = x.length := by
  show x.toArray.size = _
  simp
theorem line6 {n : Nat} (h : n ≤ 1000000) : n ≤ sizeLine := Nat.le_trans h (by decide)
def gAddS : D → D → Out D := fun x y => match x, y with
  | .str u, .str v => if u.length + v.length ≤ 1000000 then .ok (.str (u ++ v)) else .bad
  | _, _ => .bad
theorem noEx_addS : NoEx gAddS := fun a b x r h => by
  unfold gAddS at h
  split at h
  · split at h <;> cases h
  · cases h
theorem o_addS : Op2' cm b (fun x y H Q => ∃ i j, x = .str i ∧ y = .str j ∧ i.length + j.length ≤ sizeLine ∧ Q (.str (i ++ j)) H) gAddS := fun W H x y dx dy w rx ry Q hp => by
  unfold gAddS at hp
  split at hp
  · split at hp
    · cases rx; cases ry
      refine ⟨_, _, rfl, rfl, by rw [strLen, strLen]; exact line6 (by assumption), ?_⟩
      rw [strApp]
      exact hp _ H [] (Ex.refl H) (.str _) FpN.nil
    · exact hp.elim
  · exact hp.elim
theorem de_addS (ha : DE X cm E false a fa) (hb : DE X cm E false c fb) : DE X cm E b (.BinOp a .Add c pos) (c2 gAddS fa fb) := de_op op_add_str o_addS noEx_addS ha hb
theorem strMul (x : List Nat) (n : Int) : Txt.mul ⟨x.toArray⟩ n = ⟨(List.replicate n.toNat x).flatten.toArray⟩ := by
  have fold : ∀ (m : Nat), (List.foldl (fun x1 x2 => x1 ++ x2) #[] (List.replicate m x.toArray)) = (List.replicate m x).flatten.toArray := by
    have gen : ∀ (m : Nat) (acc : List Nat), (List.foldl (fun x1 x2 => x1 ++ x2) acc.toArray (List.replicate m x.toArray)) = (acc ++ (List.replicate m x).flatten).toArray := by
      intro m
      induction m with
      | zero => intro acc; simp
      | succ m ih =>
        intro acc
        rw [List.replicate_succ, List.replicate_succ, List.foldl_cons, List.append_toArray, ih, List.flatten_cons, List.append_assoc]
    intro m
    have := gen m []
    rw [List.nil_append] at this
    exact this
  unfold Txt.mul
  split
  · have : n.toNat = 0 := by omega
    rw [this]; rfl
  · split
    · rename_i h1 h
      have h : n = 1 ∨ x.length = 0 := by simpa [strLen] using h
      rcases h with h | h
      · subst h; simp
      · have : x = [] := List.eq_nil_of_length_eq_zero h
        subst this; simp
    · rw [fold]
def gMulS : D → D → Out D := fun x y => match x, y with
  | .str u, .int n => if u.length ≤ 1000 ∧ -1000 ≤ n ∧ n ≤ 1000 then .ok (.str (List.replicate n.toNat u).flatten) else .bad
  | _, _ => .bad
theorem op_mulS : OpR X (binaryOp .Mult) (fun x y H Q => ∃ u n, x = .str u ∧ y = .int n ∧ MulOk u n ∧ Q (.str (Txt.mul u n)) H) := by
  intro pins s σ H x y v u Q I rx ry h
  obtain ⟨z, n, rfl, rfl, ok, q⟩ := h
  obtain ⟨t, rfl⟩ := rx
  obtain ⟨t', rfl⟩ := ry
  exact SB.mul ok fun t' k => ⟨.str _, H, I.tok k, ⟨_, rfl⟩, q⟩
theorem noEx_mulS : NoEx gMulS := fun a b x r h => by
  unfold gMulS at h
  split at h
  · split at h <;> cases h
  · cases h
theorem o_mulS : Op2' cm b (fun x y H Q => ∃ u n, x = .str u ∧ y = .int n ∧ MulOk u n ∧ Q (.str (Txt.mul u n)) H) gMulS := fun W H x y dx dy w rx ry Q hp => by
  unfold gMulS at hp
  split at hp
  · split at hp
    · rename_i h
      cases rx; cases ry
      refine ⟨_, _, rfl, rfl, PyProof.Rows.mulOk_of 1000 1000 (by rw [strLen]; exact h.1) (by omega) (by omega) (by decide) (by decide), ?_⟩
      rw [strMul]
      exact hp _ H [] (Ex.refl H) (.str _) FpN.nil
    · exact hp.elim
  · exact hp.elim
theorem de_mulS (ha : DE X cm E false a fa) (hb : DE X cm E false c fb) : DE X cm E b (.BinOp a .Mult c pos) (c2 gMulS fa fb) := de_op op_mulS o_mulS noEx_mulS ha hb

/-! ### items -/
theorem app_nil {α : Type} {x y : List α} (h : [] = x ++ y) : x = [] ∧ y = [] := List.append_eq_nil_iff.mp h.symm
theorem Reps.at {W : Addr → Prop} {H : Hp} : ∀ {vs : List V} {ds : List D} {fp : List Addr}, Reps cm W H vs ds fp → fp = [] → ∀ {i : Nat} {d : D}, ds[i]? = some d → ∃ v, vs[i]? = some v ∧ Rep cm W H v d []
  | _, _, _, .nil, _, i, d, h => by simp at h
  | _, _, _, .cons (fp := fp1) (fps := fp2) h1 h2, hf, i, d, h => by
    obtain ⟨rfl, rfl⟩ := app_nil hf.symm
    cases i with
    | zero =>
      simp at h; subst h
      exact ⟨_, rfl, h1⟩
    | succ i => exact Reps.at h2 rfl (i := i) (by simpa using h)
theorem atI_map {α β : Type} {xs : List α} {ys : List β} (hl : xs.length = ys.length) {i : Int} {y : β} (h : atI ys i = some y) : ∃ j : Nat, ys[j]? = some y ∧ ∀ x, xs[j]? = some x → atI xs i = some x := by
  unfold atI at h ⊢
  cases e : ixN ys.length i with
  | none => rw [e] at h; cases h
  | some j =>
    rw [e] at h
    refine ⟨j, h, fun x hx => ?_⟩
    rw [hl, e]
    exact hx
theorem Reps.atI {W : Addr → Prop} {H : Hp} {vs : List V} {ds : List D} {i : Int} {d : D} (r : Reps cm W H vs ds []) (h : L2.atI ds i = some d) : ∃ v, L2.atI vs i = some v ∧ Rep cm W H v d [] := by
  obtain ⟨j, h1, h2⟩ := atI_map r.len h
  obtain ⟨v, h3, h4⟩ := r.at rfl h1
  exact ⟨v, h2 v h3, h4⟩
def ofO {α : Type} : Option α → Out α
  | some a => .ok a
  | none => .bad
def gIx : D → D → Out D := fun x y => match x, y with
  | .lst _ xs, .int i => ofO (atI xs i)
  | .tup xs, .int i => ofO (atI xs i)
  | .str cs, .int i => if cs.length ≤ 1000000 then ofO ((atI cs i).map fun c => .str [c]) else .bad
  | .scr ns, .int i => ofO ((atI ns i).map fun n => .int n)
  | _, _ => .bad
theorem noEx_ix : NoEx gIx := fun a b x r h => by
  unfold gIx at h
  split at h
  · unfold ofO at h; split at h <;> cases h
  · unfold ofO at h; split at h <;> cases h
  · split at h
    · unfold ofO at h; split at h <;> cases h
    · cases h
  · unfold ofO at h; split at h <;> cases h
  · cases h
theorem Post.ofO {α : Type} {o : Option α} {q : α → Prop} {e : Xc → Env → Prop} (h : Post (ofO o) q e) : ∃ a, o = some a ∧ q a := by
  cases o with
  | none => exact h.elim
  | some a => exact ⟨a, rfl, h⟩
theorem o_ix (hk : X.K = cm.K) : Op2' cm b (rIx X.K) gIx := fun W H x y dx dy w rx ry Q hp => by
  unfold gIx at hp
  split at hp
  · obtain ⟨d, h1, h2⟩ := hp.ofO
    cases ry
    generalize hf : ([] : List Addr) = fp at rx
    cases rx with
    | lstO => cases hf
    | lstF h n r =>
      obtain ⟨v, h3, h4⟩ := r.atI h1
      exact .inl ⟨_, _, _, v, rfl, rfl, SqL.of h, h3, h2 v H [] (Ex.refl H) h4.toP FpN.nil⟩
  · obtain ⟨d, h1, h2⟩ := hp.ofO
    cases ry
    generalize hf : ([] : List Addr) = fp at rx
    cases rx with
    | tup h n r =>
      subst hf
      obtain ⟨v, h3, h4⟩ := r.atI h1
      exact .inr (.inl ⟨_, _, _, v, rfl, rfl, SqT.of h, h3, h2 v H [] (Ex.refl H) h4.toP FpN.nil⟩)
  · split at hp
    · obtain ⟨d, h1, h2⟩ := hp.ofO
      cases ry
      cases rx
      rename_i hz
      obtain ⟨cc, h3, rfl⟩ := Option.map_eq_some_iff.mp h1
      exact .inr (.inr ⟨_, _, cc, rfl, rfl, by rw [strLen]; exact line6 hz, h3, h2 _ H [] (Ex.refl H) (.str _) FpN.nil⟩)
    · exact hp.elim
  · obtain ⟨d, h1, h2⟩ := hp.ofO
    cases ry
    obtain ⟨n, h3, rfl⟩ := Option.map_eq_some_iff.mp h1
    rename_i ns i
    have h4 : L2.atI (ns.map V.int) i = some (.int n) := by
      obtain ⟨j, q1, q2⟩ := atI_map (xs := ns.map V.int) (by simp) h3
      exact q2 _ (by simp [q1])
    cases rx with
    | scrF h nw => exact .inl ⟨_, _, _, _, rfl, rfl, .inl (.inr ⟨_, h⟩), h4, h2 _ H [] (Ex.refl H) (.int _) FpN.nil⟩
    | scrK h => exact .inl ⟨_, _, _, _, rfl, rfl, by rw [hk]; exact h H, h4, h2 _ H [] (Ex.refl H) (.int _) FpN.nil⟩
  · exact hp.elim
theorem de_item (hk : X.K = cm.K) (ha : DE X cm E false a fa) (hb : DE X cm E false c fb) (hs : PlainIx c := by exact fun _ _ => rfl) : DE X cm E b (.Subscript a c pos) (c2 gIx fa fb) := de_ix ix_seq (o_ix hk) noEx_ix hs ha hb

/-! ### calls of built-ins by values -/
def cA (g : List D → Out D) (fs : Env → Out (List D)) : F := fun r => (fs r).bind g
def RA (cm : Cm) (b : Bool) (r : List V → Hp → VK → Prop) (g : List D → Out D) : Prop := ∀ W H vs ds, WOk cm W H → Reps cm W H vs ds [] → ∀ Q : VK, Post (g ds) (QP cm W b H Q) noX → r vs H Q
def NoExA (g : List D → Out D) : Prop := ∀ a x r, g a ≠ .exn x r
theorem conA {r : List V → Hp → VK → Prop} {g : List D → Out D} {ta : TA} {fs : Env → Out (List D)} (ho : RA cm b r g) (hn : NoExA g) (ha : ACon cm E false ta fs) : ECon cm E b (tCB r ta) (cA g fs) := fun W H σ env w fr Q hp =>
  ha W H σ env w fr _ (hp.bind.mono (fun ds q vs H1 fp e1 r1 f1 => by
    cases (show fp = [] from f1)
    exact ho W H1 vs ds (w.ex e1) r1.ofP Q (Post.noX (q.mono (fun d q3 z H3 fp3 e3 r3 f3 => q3 z H3 fp3 (e1.trans e3) r3 (f3.ex e1)) fun _ _ z => z) (hn ds))) fun _ _ z => z)
theorem de_blt {id : String} {x : Str} {p : Pos} {e : Expr} {es : List Expr} {r : List V → Hp → VK → Prop} {g : List D → Out D} {fs : Env → Out (List D)} (hc : CallR X (.builtin id) r) (ho : RA cm b r g) (hn : NoExA g) (hg : Gl X x) (hm : X.mg x = none) (hv : bootBuiltins x = some (.builtin id)) (ha : DA X cm E false (e :: es) fs)
    (hnn : x ≠ "__name__" := by decide) (hdb : (x == ("__debug__" : Str)) = false := by decide) (he : starEach (e :: es) X.env = (false, eval e X.env) :: starEach es X.env := by rfl) (hpl : (backTo pos (starEach es X.env)).any (·.1) = false := by rfl) : DE X cm E b (.Call (.Name x p) (e :: es) [] pos) (cA g fs) := by
  obtain ⟨ta, h1, h2⟩ := ha.ex
  exact ⟨_, pe_callB hc hg hm hv h1 hnn hdb he hpl, conA ho hn h2⟩
theorem de_ty {T : String} {x : Str} {p : Pos} {e : Expr} {es : List Expr} {r : List V → Hp → VK → Prop} {g : List D → Out D} {fs : Env → Out (List D)} (hc : CallR X (.type T) r) (ho : RA cm b r g) (hn : NoExA g) (hg : Gl X x) (hm : X.mg x = none) (hv : bootBuiltins x = some (.type T)) (ha : DA X cm E false (e :: es) fs)
    (hnn : x ≠ "__name__" := by decide) (hdb : (x == ("__debug__" : Str)) = false := by decide) (he : starEach (e :: es) X.env = (false, eval e X.env) :: starEach es X.env := by rfl) (hpl : (backTo pos (starEach es X.env)).any (·.1) = false := by rfl) : DE X cm E b (.Call (.Name x p) (e :: es) [] pos) (cA g fs) := by
  obtain ⟨ta, h1, h2⟩ := ha.ex
  exact ⟨_, pe_callTy hc hg hm hv h1 hnn hdb he hpl, conA ho hn h2⟩
/-- one argument -/
def g1 (g : D → Out D) : List D → Out D
  | [d] => g d
  | _ => .bad
theorem noEx_g1 {g : D → Out D} (h : ∀ a x r, g a ≠ .exn x r) : NoExA (g1 g) := fun a x r q => by
  unfold g1 at q
  split at q
  · exact h _ _ _ q
  · cases q
theorem ra_1 {r : List V → Hp → VK → Prop} {g : D → Out D} (h : ∀ W H v d, WOk cm W H → Rep cm W H v d [] → ∀ Q : VK, Post (g d) (QP cm W b H Q) noX → r [v] H Q) : RA cm b r (g1 g) := fun W H vs ds w rp Q hp => by
  unfold g1 at hp
  split at hp
  · generalize hf : ([] : List Addr) = fp at rp
    cases rp with
    | cons h1 h2 =>
      cases h2
      rw [List.append_nil] at hf
      subst hf
      exact h W H _ _ w h1 Q hp
  · exact hp.elim
/-! len -/
def gLen : D → Out D
  | .str cs => if cs.length ≤ 1000000 then .ok (.int cs.length) else .bad
  | .lst _ xs => .ok (.int xs.length)
  | .tup xs => .ok (.int xs.length)
  | .scr ns => .ok (.int ns.length)
  | _ => .bad
theorem noEx_len : ∀ a x r, gLen a ≠ .exn x r := fun a x r h => by
  unfold gLen at h
  split at h
  · split at h <;> cases h
  all_goals cases h
theorem ra_len (hk : X.K = cm.K) : RA cm b (fun xs H Q => ∃ x n, xs = [x] ∧ LenV X.K x H n ∧ Q (.int n) H) (g1 gLen) := ra_1 fun W H v d w rp Q hp => by
  unfold gLen at hp
  split at hp
  · split at hp
    · cases rp
      rename_i hz
      exact ⟨_, _, rfl, ⟨by rw [strLen]; exact line6 hz, rfl⟩, by rw [strLen]; exact hp _ H [] (Ex.refl H) (.int _) FpN.nil⟩
    · exact hp.elim
  · generalize hf : ([] : List Addr) = fp at rp
    cases rp with
    | lstO => cases hf
    | lstF h n r => exact ⟨_, _, rfl, .inl ⟨_, SqL.of h, rfl⟩, by rw [r.len]; exact hp _ H [] (Ex.refl H) (.int _) FpN.nil⟩
  · generalize hf : ([] : List Addr) = fp at rp
    cases rp with
    | tup h n r => exact ⟨_, _, rfl, .inr ⟨_, SqT.of h, rfl⟩, by rw [r.len]; exact hp _ H [] (Ex.refl H) (.int _) FpN.nil⟩
  · rename_i ns
    have hl : (ns.map V.int).length = ns.length := List.length_map ..
    cases rp with
    | scrF h n => exact ⟨_, _, rfl, .inl ⟨_, .inl (.inr ⟨_, h⟩), rfl⟩, by rw [hl]; exact hp _ H [] (Ex.refl H) (.int _) FpN.nil⟩
    | scrK h => exact ⟨_, _, rfl, .inl ⟨_, by rw [hk]; exact h H, rfl⟩, by rw [hl]; exact hp _ H [] (Ex.refl H) (.int _) FpN.nil⟩
  · exact hp.elim
theorem de_len {p : Pos} {e : Expr} {fs : Env → Out (List D)} (hk : X.K = cm.K) (hg : Gl X "len") (hm : X.mg "len" = none) (ha : DA X cm E false [e] fs) (he : starEach [e] X.env = (false, eval e X.env) :: starEach [] X.env := by rfl) (hpl : (backTo pos (starEach [] X.env)).any (·.1) = false := by rfl) : DE X cm E b (.Call (.Name "len" p) [e] [] pos) (cA (g1 gLen) fs) :=
  de_blt call_len (ra_len hk) (noEx_g1 noEx_len) hg hm PySem.boot_len ha (by decide) (by decide) he hpl
end
end DL

namespace DL
variable [Tbs]
open PySem L2
/-! ### isinstance by built-in types -/
inductive Ty where
  | int | bool | str | list | tuple | dict
def Ty.nm : Ty → String
  | .int => "int" | .bool => "bool" | .str => "str" | .list => "list" | .tuple => "tuple" | .dict => "dict"
def isTy : Ty → D → Bool
  | .int, .int _ => true
  | .int, .bl _ => true
  | .bool, .bl _ => true
  | .str, .str _ => true
  | .list, .lst _ _ => true
  | .list, .scr _ => true
  | .tuple, .tup _ => true
  | .dict, .dK _ _ _ => true
  | .dict, .dT _ _ _ => true
  | _, _ => false
/-- what is known of an own class -/
structure ObC (K : PySem.W.Frag) (C : Addr) : Prop where
  cl : Cls K C
  ha : PySem.W.findIn K (.ref C) "__class__" = some (some (.builtin "object.__class__"))
  hn : PySem.W.specialIn K (.builtin "object.__class__") "__get__" = some (some (.builtin "getset_descriptor.__get__"))
  htk : PySem.W.takesIn K (.builtin "object.__class__") = some true
  hm : PySem.W.mroIn K C (.type "object") = some true
  nb : ∀ t : Ty, PySem.W.kitOne K (.ref C) (.type t.nm) = some false
def CmOk (cm : Cm) : Prop := ∀ c, cm.ok c → ObC cm.K (cm.cl c)
theorem kb_non (t : Ty) : kitB "NoneType" t.nm = some false := by cases t <;> decide +kernel
def bInt : Ty → Bool
  | .int => true | _ => false
def bBool : Ty → Bool
  | .int => true | .bool => true | _ => false
def bStr : Ty → Bool
  | .str => true | _ => false
def bList : Ty → Bool
  | .list => true | _ => false
def bTup : Ty → Bool
  | .tuple => true | _ => false
def bDict : Ty → Bool
  | .dict => true | _ => false
theorem kb_bool (t : Ty) : kitB "bool" t.nm = some (bBool t) := by cases t <;> decide +kernel
theorem kb_int (t : Ty) : kitB "int" t.nm = some (bInt t) := by cases t <;> decide +kernel
theorem kb_str (t : Ty) : kitB "str" t.nm = some (bStr t) := by cases t <;> decide +kernel
theorem kb_list (t : Ty) : kitB "list" t.nm = some (bList t) := by cases t <;> decide +kernel
theorem kb_tup (t : Ty) : kitB "tuple" t.nm = some (bTup t) := by cases t <;> decide +kernel
theorem kb_dict (t : Ty) : kitB "dict" t.nm = some (bDict t) := by cases t <;> decide +kernel
theorem Rep.ty {cm : Cm} (hC : CmOk cm) (t : Ty) {W : Addr → Prop} {H : Hp} {v : V} {d : D} {fp : List Addr} (h : Rep cm W H v d fp) (nd : ∀ ks xs o, d ≠ .dT o ks xs ∨ ∃ p kvs, v = .ref p ∧ H p = some (.dT kvs)) (ns : ∀ ns, d ≠ .scr ns ∨ ∃ p o xs, v = .ref p ∧ H p = some (.frz o (.lst xs))) (ne : ∀ c fs xs, d ≠ .exc c fs xs) (na : d ≠ .any) :
    ∃ ty, TyX cm.K H v ty ∧ PySem.W.kitOne cm.K ty (.type t.nm) = some (isTy t d) := by
  cases h with
  | non => exact ⟨_, .base .non, by rw [kit_ty (kb_non t)]; cases t <;> rfl⟩
  | bl b => exact ⟨_, .base (.bl b), by rw [kit_ty (kb_bool t)]; cases t <;> rfl⟩
  | int b => exact ⟨_, .base (.int b), by rw [kit_ty (kb_int t)]; cases t <;> rfl⟩
  | str b => exact ⟨_, .base (.str _), by rw [kit_ty (kb_str t)]; cases t <;> rfl⟩
  | lstO h r => exact ⟨_, .base (.lst h), by rw [kit_ty (kb_list t)]; cases t <;> rfl⟩
  | lstF h n r => exact ⟨_, .base (.lst h), by rw [kit_ty (kb_list t)]; cases t <;> rfl⟩
  | tup h n r => exact ⟨_, .base (.tup h), by rw [kit_ty (kb_tup t)]; cases t <;> rfl⟩
  | dKO h l r => exact ⟨_, .base (.dK h), by rw [kit_ty (kb_dict t)]; cases t <;> rfl⟩
  | dKF h l n r =>
    rcases h with h | ⟨o, h⟩
    · exact ⟨_, .base (.dK h), by rw [kit_ty (kb_dict t)]; cases t <;> rfl⟩
    · exact ⟨_, .fDict h, by rw [kit_ty (kb_dict t)]; cases t <;> rfl⟩
  | dTO h l r => exact ⟨_, .base (.dT h), by rw [kit_ty (kb_dict t)]; cases t <;> rfl⟩
  | dTF h l n r =>
    rcases nd _ _ _ with q | ⟨p, kvs, e, q⟩
    · exact absurd rfl q
    · cases e
      exact ⟨_, .base (.dT q), by rw [kit_ty (kb_dict t)]; cases t <;> rfl⟩
  | objO h l r =>
    have c := hC _ l.2
    exact ⟨_, .base (.ins h c.cl c.ha c.hn c.htk c.hm), by cases t <;> exact c.nb _⟩
  | objF h l n r =>
    have c := hC _ l.2
    exact ⟨_, .base (.ins h c.cl c.ha c.hn c.htk c.hm), by cases t <;> exact c.nb _⟩
  | scrF h n => exact ⟨_, .base (.frz h), by rw [kit_ty (kb_list t)]; cases t <;> rfl⟩
  | scrK h =>
    rcases ns _ with q | ⟨p, o, xs, e, q⟩
    · exact absurd rfl q
    · cases e
      exact ⟨_, .base (.frz q), by rw [kit_ty (kb_list t)]; cases t <;> rfl⟩
  | exc => exact absurd rfl (ne _ _ _)
  | any => exact absurd rfl na
def gIsi (t : Ty) : D → Out D := fun d => match d with
  | .dT false _ _ => .bad
  | .scr _ => .bad
  | .exc _ _ _ => .bad
  | .any => .bad
  | _ => .ok (.bl (isTy t d))
section
variable {X : Cx} {cm : Cm} {E : XS} {b : Bool} {pos : Pos} {a c : Expr} {fa fb : F}
theorem de_isi (t : Ty) {x : Str} {p p2 : Pos} (hk : X.K = cm.K) (hC : CmOk cm) (hg : Gl X "isinstance") (hm : X.mg "isinstance" = none) (hg2 : Gl X x) (hm2 : X.mg x = none) (ha : DE X cm E false a fa) (hv : bootBuiltins x = some (.type t.nm) := by decide +kernel)
    (hnn : x ≠ "__name__" := by decide) (hdb : (x == ("__debug__" : Str)) = false := by decide) (hs1 : starEach [a, .Name x p2] X.env = (false, eval a X.env) :: starEach [.Name x p2] X.env := by rfl) (hs2 : starEach [.Name x p2] X.env = (false, eval (.Name x p2) X.env) :: starEach [] X.env := by rfl) (hpl : (backTo pos (starEach [.Name x p2] X.env)).any (·.1) = false := by rfl) :
    DE X cm E b (.Call (.Name "isinstance" p) [a, .Name x p2] [] pos) (c1 (gIsi t) fa) := by
  obtain ⟨ta, h1, h2⟩ := ha.ex
  refine ⟨_, pe_callB call_isi hg hm PyProof.Rows.boot_isinstance (pa_cons h1 (pa_cons (pe_bltn (v := .ty t.nm) hg2 hm2 hv rfl hnn hdb) pa_nil hs2) hs1) (by decide) (by decide) hs1 hpl, fun W H σ env w fr Q hp => h2 W H σ env w fr _ (hp.bind.mono (fun d q v H1 fp e1 r1 f1 => ?_) fun _ _ z => z)⟩
  show rIsi X.K [v, .ty t.nm] H1 Q
  have q' : gIsi t d = .ok (.bl (isTy t d)) ∧ ((∀ ks xs o, d ≠ .dT o ks xs ∨ ∃ p kvs, v = .ref p ∧ H1 p = some (.dT kvs)) ∧ (∀ ns, d ≠ .scr ns ∨ ∃ p o xs, v = .ref p ∧ H1 p = some (.frz o (.lst xs))) ∧ (∀ c fs xs, d ≠ .exc c fs xs) ∧ d ≠ .any) := by
    unfold gIsi at q ⊢
    split at q
    · exact q.elim
    · exact q.elim
    · exact q.elim
    · exact q.elim
    · rename_i n1 n2 n3 n4
      refine ⟨rfl, fun ks xs o => ?_, fun ns => .inl (n2 ns), n3, n4⟩
      cases o with
      | false => exact .inl (n1 ks xs)
      | true =>
        by_cases hd : d = .dT true ks xs
        · subst hd
          cases (show fp = [] from f1)
          cases r1
        · exact .inl hd
  obtain ⟨qe, q1, q2, q3, q4⟩ := q'
  rw [qe] at q
  obtain ⟨ty, k1, k2⟩ := r1.ofP.ty hC t q1 q2 q3 q4
  exact ⟨v, .ty t.nm, ty, .type t.nm, isTy t d, rfl, .ty _, by rw [hk]; exact k1, by rw [hk]; exact k2, q _ H1 [] e1 (.bl _) FpN.nil⟩

/-! ### is -/
def gIsN (neg : Bool) : D → D → Out D := fun x y => match y with
  | .non => match x with
    | .non => .ok (.bl (true != neg))
    | .any => .bad
    | _ => .ok (.bl (false != neg))
  | .bl k => match x with
    | .bl j => .ok (.bl ((j == k) != neg))
    | _ => .bad
  | _ => .bad
theorem noEx_isN {neg : Bool} : NoEx (gIsN neg) := fun a b x r h => by
  unfold gIsN at h
  split at h <;> first | cases h | (split at h <;> cases h)
theorem Rep.nonIff {W : Addr → Prop} {H : Hp} {v : V} {d : D} {fp : List Addr} (h : Rep cm W H v d fp) (na : d ≠ .any) : decide (v = .non) = (match d with | .non => true | _ => false) := by
  cases h <;> first | rfl | exact absurd rfl na
def rIsA (neg : Bool) : R2 := fun x y H Q => (y = .non ∧ Q (.bl (decide (x = .non) != neg)) H) ∨ ∃ i j : Bool, x = .bl i ∧ y = .bl j ∧ Q (.bl (decide (i = j) != neg)) H
theorem op_isA : OpR X (compareOp .Is) (rIsA false) := by
  intro pins s σ H x y v u Q I rx ry h
  rcases h with ⟨e, q⟩ | ⟨i, j, e1, e2, q⟩
  · exact op_isN pins s σ H x y v u Q I rx ry ⟨e, by simpa using q⟩
  · exact op_isBl pins s σ H x y v u Q I rx ry ⟨i, j, e1, e2, by simpa using q⟩
theorem op_isnA : OpR X (compareOp .IsNot) (rIsA true) := by
  intro pins s σ H x y v u Q I rx ry h
  rcases h with ⟨e, q⟩ | ⟨i, j, e1, e2, q⟩
  · exact op_notN pins s σ H x y v u Q I rx ry ⟨e, by simpa using q⟩
  · exact op_notBl pins s σ H x y v u Q I rx ry ⟨i, j, e1, e2, by simpa using q⟩
theorem o_is {neg : Bool} : Op2' cm b (rIsA neg) (gIsN neg) := fun W H x y dx dy w rx ry Q hp => by
  unfold gIsN at hp
  split at hp
  · cases ry
    refine .inl ⟨rfl, ?_⟩
    have na : dx ≠ .any := fun z => by subst z; exact hp.elim
    rw [rx.nonIff na]
    cases dx <;> first | exact absurd rfl na | exact hp _ H [] (Ex.refl H) (.bl _) FpN.nil
  · split at hp
    · cases rx; cases ry
      refine .inr ⟨_, _, rfl, rfl, ?_⟩
      rw [show ∀ i j : Bool, decide (i = j) = (i == j) from fun i j => by cases i <;> cases j <;> rfl]
      exact hp _ H [] (Ex.refl H) (.bl _) FpN.nil
    · exact hp.elim
  · exact hp.elim
theorem de_is (ha : DE X cm E false a fa) (hb : DE X cm E false c fb) : DE X cm E b (.Compare a [.Is] [c] pos) (c2 (gIsN false) fa fb) := de_cmp op_isA o_is noEx_isN (nomark _) ha hb
theorem de_isn (ha : DE X cm E false a fa) (hb : DE X cm E false c fb) : DE X cm E b (.Compare a [.IsNot] [c] pos) (c2 (gIsN true) fa fb) := de_cmp op_isnA o_is noEx_isN (nomark _) ha hb
theorem dt_is (ha : DE X cm E false a fa) (hb : DE X cm E false c fb) : DT X cm E (.Compare a [.Is] [c] pos) (tB (c2 (gIsN false) fa fb)) := dt_cmp op_isA o_is noEx_isN (nomark _) ha hb
theorem dt_isn (ha : DE X cm E false a fa) (hb : DE X cm E false c fb) : DT X cm E (.Compare a [.IsNot] [c] pos) (tB (c2 (gIsN true) fa fb)) := dt_cmp op_isnA o_is noEx_isN (nomark _) ha hb

/-! ### lists glued, repeated -/
theorem Reps.newW {W : Addr → Prop} {H : Hp} {vs : List V} {ds : List D} {fp : List Addr} {p : Addr} {o : HO} (r : Reps cm W H vs ds fp) (hp : H p = none) : Reps cm (Wp W [p]) (upd H p o) vs ds fp :=
  r.move (fun a z => z.imp id fun m => by rw [List.mem_singleton.mp m]; exact hp) fun a o q t _ => (Ex.new hp).get a o q t
theorem fpN_new {H : Hp} {p : Addr} (h : H p = none) : FpN true H [p] := ⟨by simp, fun a m => by rw [List.mem_singleton.mp m]; exact h⟩
theorem Reps.app {W : Addr → Prop} {H : Hp} : ∀ {vs : List V} {ds : List D} {fp : List Addr}, Reps cm W H vs ds fp → ∀ {us : List V} {es : List D} {fq : List Addr}, Reps cm W H us es fq → Reps cm W H (vs ++ us) (ds ++ es) (fp ++ fq)
  | _, _, _, .nil, _, _, _, q => q
  | _, _, _, .cons h r, us, es, fq, q => by
    rw [List.append_assoc]
    exact .cons h (Reps.app r q)
def gCat : D → D → Out D := fun x y => match x, y with
  | .lst _ u, .lst _ v => if u.length + v.length ≤ 1000000 then .ok (.lst true (u ++ v)) else .bad
  | _, _ => .bad
theorem o_cat : Op2' cm true rCat gCat := fun W H x y dx dy w rx ry Q hp => by
  unfold gCat at hp
  split at hp
  · split at hp
    · rename_i hz
      generalize hf : ([] : List Addr) = fp at rx
      generalize hg : ([] : List Addr) = fq at ry
      cases rx with
      | lstO => cases hf
      | lstF h n r =>
        cases ry with
        | lstO => cases hg
        | lstF h' n' r' =>
          exact ⟨_, _, _, _, rfl, rfl, h, h', by rw [r.len, r'.len]; exact line6 hz, fun p hp' => hp (.ref p) _ [p] (Ex.new hp') (.lstO (fp := []) upd_same (Reps.app (r.newW hp') (r'.newW hp'))) (fpN_new hp')⟩
    · exact hp.elim
  · exact hp.elim
theorem noEx_cat : NoEx gCat := fun a b x r h => by
    unfold gCat at h
    split at h
    · split at h <;> cases h
    · cases h
theorem de_cat (ha : DE X cm E false a fa) (hb : DE X cm E false c fb) : DE X cm E true (.BinOp a .Add c pos) (c2 gCat fa fb) := de_op op_cat o_cat noEx_cat ha hb
theorem Reps.rep {W : Addr → Prop} {H : Hp} {vs : List V} {ds : List D} (r : Reps cm W H vs ds []) : ∀ k : Nat, Reps cm W H (List.replicate k vs).flatten (List.replicate k ds).flatten []
  | 0 => .nil
  | k + 1 => by
    rw [List.replicate_succ, List.replicate_succ, List.flatten_cons, List.flatten_cons]
    exact Reps.app r (Reps.rep r k)
def gMulL : D → D → Out D := fun x y => match x, y with
  | .lst _ u, .int n => if u.length ≤ 1000 ∧ -1000 ≤ n ∧ n ≤ 1000 then .ok (.lst true (List.replicate n.toNat u).flatten) else .bad
  | _, _ => .bad
theorem o_mulL : Op2' cm true rRep gMulL := fun W H x y dx dy w rx ry Q hp => by
  unfold gMulL at hp
  split at hp
  · split at hp
    · rename_i hz
      cases ry
      generalize hf : ([] : List Addr) = fp at rx
      cases rx with
      | lstO => cases hf
      | lstF h n r =>
        refine ⟨_, _, _, rfl, rfl, h, by omega, by omega, ?_, fun p hp' => hp (.ref p) _ [p] (Ex.new hp') (.lstO (fp := []) upd_same ((r.rep _).newW hp')) (fpN_new hp')⟩
        rw [r.len]
        exact line6 (Nat.le_trans (Nat.mul_le_mul hz.1 (show Int.toNat _ ≤ 1000 by omega)) (by decide))
    · exact hp.elim
  · exact hp.elim
theorem noEx_mulL : NoEx gMulL := fun a b x r h => by
    unfold gMulL at h
    split at h
    · split at h <;> cases h
    · cases h
theorem de_mulL (ha : DE X cm E false a fa) (hb : DE X cm E false c fb) : DE X cm E true (.BinOp a .Mult c pos) (c2 gMulL fa fb) := de_op op_rep o_mulL noEx_mulL ha hb
/-! ### slices -/
structure DO (X : Cx) (cm : Cm) (E : XS) (e : Option Expr) (f : Env → Out (Option Int)) : Prop where
  ex : ∃ t, PO X e t ∧ ∀ W H σ r, WOk cm W H → FRep cm W H σ r → ∀ Q : Option Int → Hp → Prop, Post (f r) (fun o => ∀ H', Ex H H' → Q o H') (XPost cm (E σ) W H) → t σ H Q
def oNone : Env → Out (Option Int) := fun _ => .ok none
def isI : D → Out Int
  | .int i => .ok i
  | _ => .bad
def oSome (f : F) : Env → Out (Option Int) := fun r => (f r).bind fun d => (isI d).bind fun i => .ok (some i)
theorem do_none : DO X cm E none oNone := ⟨_, po_none, fun W H σ r w fr Q hp => hp H (Ex.refl H)⟩
theorem do_some (ha : DE X cm E false a fa) : DO X cm E (some a) (oSome fa) := by
  obtain ⟨ta, h1, h2⟩ := ha.ex
  refine ⟨_, po_some h1, fun W H σ r w fr Q hp => h2 W H σ r w fr _ (hp.bind.mono (fun d q v H1 fp e1 r1 f1 => ?_) fun _ _ z => z)⟩
  cases d <;> first | exact q.elim | skip
  cases r1
  exact ⟨_, rfl, q H1 e1⟩
def cut {α : Type} (xs : List α) (lo hi : Option Int) : List α := (xs.drop (HT.sIx xs.length 0 lo)).take (HT.sIx xs.length xs.length hi - HT.sIx xs.length 0 lo)
def cSl (g : D → Option Int → Option Int → Out D) (f : F) (l h : Env → Out (Option Int)) : F := fun r => (f r).bind fun d => (l r).bind fun i => (h r).bind fun j => g d i j
def gSl : D → Option Int → Option Int → Out D := fun d lo hi => match d with
  | .str cs => if cs.length ≤ 1000000 then .ok (.str (cut cs lo hi)) else .bad
  | .lst _ xs => .ok (.lst true (cut xs lo hi))
  | .tup xs => if HT.sIx xs.length 0 lo = 0 ∧ HT.sIx xs.length xs.length hi = xs.length then .bad else .ok (.tup (cut xs lo hi))
  | _ => .bad
def gSlS : D → Option Int → Option Int → Out D := fun d lo hi => match d with
  | .str cs => if cs.length ≤ 1000000 then .ok (.str (cut cs lo hi)) else .bad
  | .tup xs => if HT.sIx xs.length 0 lo = 0 ∧ HT.sIx xs.length xs.length hi = xs.length then .bad else .ok (.tup (cut xs lo hi))
  | _ => .bad
theorem Reps.drop {W : Addr → Prop} {H : Hp} : ∀ (n : Nat) {vs : List V} {ds : List D} {fp : List Addr}, Reps cm W H vs ds fp → fp = [] → Reps cm W H (vs.drop n) (ds.drop n) []
  | 0, _, _, _, r, e => by subst e; exact r
  | n + 1, _, _, _, .nil, _ => .nil
  | n + 1, _, _, _, .cons h r, e => by
    obtain ⟨rfl, rfl⟩ := app_nil e.symm
    exact Reps.drop n r rfl
theorem Reps.take {W : Addr → Prop} {H : Hp} : ∀ (n : Nat) {vs : List V} {ds : List D} {fp : List Addr}, Reps cm W H vs ds fp → fp = [] → Reps cm W H (vs.take n) (ds.take n) []
  | 0, _, _, _, r, e => .nil
  | n + 1, _, _, _, .nil, _ => .nil
  | n + 1, _, _, _, .cons h r, e => by
    obtain ⟨rfl, rfl⟩ := app_nil e.symm
    exact .cons (fp := []) h (Reps.take n r rfl)
theorem Reps.cut {W : Addr → Prop} {H : Hp} {vs : List V} {ds : List D} (r : Reps cm W H vs ds []) (lo hi : Option Int) : Reps cm W H (cutV vs lo hi) (DL.cut ds lo hi) [] := by
  unfold cutV DL.cut
  rw [r.len]
  exact (r.drop _ rfl).take _ rfl
theorem strCut (cs : List Nat) (lo hi : Option Int) : cutS ⟨cs.toArray⟩ lo hi = ⟨(cut cs lo hi).toArray⟩ := by
  unfold cutS cut
  rw [strLen]
def rSlA (K : PySem.W.Frag) : V → Option Int → Option Int → Hp → VK → Prop := fun x lo hi H Q => rSlS x lo hi H Q ∨ rSlL K x lo hi H Q ∨ rSlT K x lo hi H Q
theorem sl_all : SlR X (rSlA X.K) := sl_str.or (sl_list.or sl_tup)
theorem conSl {g : D → Option Int → Option Int → Out D} {ta : TE} {t1 t2 : TO} {f1 f2 : Env → Out (Option Int)} (hn : ∀ d i j x r, g d i j ≠ .exn x r)
    (ho : ∀ W H v d lo hi, WOk cm W H → Rep cm W H v d [] → ∀ Q : VK, Post (g d lo hi) (QP cm W b H Q) noX → rSlA X.K v lo hi H Q) (ha : ECon cm E false ta fa)
    (h1 : ∀ W H σ r, WOk cm W H → FRep cm W H σ r → ∀ Q : Option Int → Hp → Prop, Post (f1 r) (fun o => ∀ H', Ex H H' → Q o H') (XPost cm (E σ) W H) → t1 σ H Q)
    (h2 : ∀ W H σ r, WOk cm W H → FRep cm W H σ r → ∀ Q : Option Int → Hp → Prop, Post (f2 r) (fun o => ∀ H', Ex H H' → Q o H') (XPost cm (E σ) W H) → t2 σ H Q) : ECon cm E b (tSl (rSlA X.K) ta t1 t2) (cSl g fa f1 f2) := fun W H σ env w fr Q hp =>
  ha W H σ env w fr _ (hp.bind.mono (fun d q v H1 fp e1 r1 q1 => h1 W H1 σ env (w.ex e1) (fr.ex e1) _ (q.bind.mono (fun lo q2 H2 e2 => h2 W H2 σ env ((w.ex e1).ex e2) ((fr.ex e1).ex e2) _ (q2.bind.mono (fun hi q3 H3 e3 => by
    cases (show fp = [] from q1)
    exact ho W H3 v d lo hi (((w.ex e1).ex e2).ex e3) ((r1.ex e2).ex e3).ofP Q (Post.noX (q3.mono (fun d q4 z H4 fp4 e4 r4 f4 => q4 z H4 fp4 (((e1.trans e2).trans e3).trans e4) r4 (f4.ex ((e1.trans e2).trans e3))) fun _ _ z => z) (hn d lo hi))) fun x rr z => XPost.ex (e1.trans e2) z)) fun x rr z => XPost.ex e1 z)) fun _ _ z => z)
theorem de_sl {lo hi : Option Expr} {f1 f2 : Env → Out (Option Int)} {p2 : Pos} (ha : DE X cm E false a fa) (h1 : DO X cm E lo f1) (h2 : DO X cm E hi f2) : DE X cm E true (.Subscript a (.Slice lo hi none p2) pos) (cSl gSl fa f1 f2) := by
  obtain ⟨ta, a1, a2⟩ := ha.ex
  obtain ⟨t1, b1, b2⟩ := h1.ex
  obtain ⟨t2, c1, c2⟩ := h2.ex
  refine ⟨_, pe_slice sl_all a1 b1 c1, conSl (fun d i j x r h => ?_) (fun W H v d lo hi w rp Q hp => ?_) a2 b2 c2⟩
  · unfold gSl at h
    split at h
    · split at h <;> cases h
    · cases h
    · split at h <;> cases h
    · cases h
  · unfold gSl at hp
    split at hp
    · split at hp
      · cases rp
        rename_i hz
        exact .inl ⟨_, rfl, by rw [strLen]; exact line6 hz, by rw [strCut]; exact hp _ H [] (Ex.refl H) (.str _) FpN.nil⟩
      · exact hp.elim
    · generalize hf : ([] : List Addr) = fp at rp
      cases rp with
      | lstO => cases hf
      | lstF h n r => exact .inr (.inl ⟨_, _, rfl, SqL.of h, fun p hp' => hp (.ref p) _ [p] (Ex.new hp') (.lstO (fp := []) upd_same ((r.cut lo hi).newW hp')) (fpN_new hp')⟩)
    · split at hp
      · exact hp.elim
      · rename_i hw
        generalize hf : ([] : List Addr) = fp at rp
        cases rp with
        | tup h n r =>
          subst hf
          refine .inr (.inr ⟨_, _, rfl, SqT.of h, by rw [r.len]; exact hw, fun p hp' => hp (.ref p) _ [] (Ex.new hp') (.tup upd_same (fun z => z.elim (w.fresh hp') fun m => nomatch m) ((r.cut lo hi).ex (Ex.new hp')).toP) FpN.nil⟩)
    · exact hp.elim
theorem de_slS {lo hi : Option Expr} {f1 f2 : Env → Out (Option Int)} {p2 : Pos} (ha : DE X cm E false a fa) (h1 : DO X cm E lo f1) (h2 : DO X cm E hi f2) : DE X cm E b (.Subscript a (.Slice lo hi none p2) pos) (cSl gSlS fa f1 f2) := by
  obtain ⟨ta, a1, a2⟩ := ha.ex
  obtain ⟨t1, b1, b2⟩ := h1.ex
  obtain ⟨t2, c1, c2⟩ := h2.ex
  refine ⟨_, pe_slice sl_all a1 b1 c1, conSl (fun d i j x r h => ?_) (fun W H v d lo hi w rp Q hp => ?_) a2 b2 c2⟩
  · unfold gSlS at h
    split at h
    · split at h <;> cases h
    · split at h <;> cases h
    · cases h
  · unfold gSlS at hp
    split at hp
    · split at hp
      · cases rp
        rename_i hz
        exact .inl ⟨_, rfl, by rw [strLen]; exact line6 hz, by rw [strCut]; exact hp _ H [] (Ex.refl H) (.str _) FpN.nil⟩
      · exact hp.elim
    · split at hp
      · exact hp.elim
      · rename_i hw
        generalize hf : ([] : List Addr) = fp at rp
        cases rp with
        | tup h n r =>
          subst hf
          refine .inr (.inr ⟨_, _, rfl, SqT.of h, by rw [r.len]; exact hw, fun p hp' => hp (.ref p) _ [] (Ex.new hp') (.tup upd_same (fun z => z.elim (w.fresh hp') fun m => nomatch m) ((r.cut lo hi).ex (Ex.new hp')).toP) FpN.nil⟩)
    · exact hp.elim
end
end DL

namespace DL
variable [Tbs]
open PySem L2

/-! ### the readings as f tells them -/
def teOf (cm : Cm) (E : XS) (b : Bool) (f : F) : TE := fun σ H Q => ∃ W r, WOk cm W H ∧ FRep cm W H σ r ∧ Post (f r) (QP cm W b H Q) (XPost cm (E σ) W H)
def ttOf (cm : Cm) (E : XS) (f : Env → Out Bool) : TT := fun σ H Q => ∃ W r, WOk cm W H ∧ FRep cm W H σ r ∧ Post (f r) (QT H Q) (XPost cm (E σ) W H)
theorem DE.pe {X : Cx} {cm : Cm} {E : XS} {b : Bool} {e : Expr} {f : F} (h : DE X cm E b e f) : PE X e (teOf cm E b f) := by
  obtain ⟨te, h1, h2⟩ := h.ex
  exact ⟨fun pins s σ H Q I ⟨W, r, w, fr, hp⟩ => h1.run pins s σ H Q I (h2 W H σ r w fr Q hp)⟩
theorem DT.pt {X : Cx} {cm : Cm} {E : XS} {e : Expr} {f : Env → Out Bool} (h : DT X cm E e f) : PT X e (ttOf cm E f) := by
  obtain ⟨te, h1, h2⟩ := h.ex
  exact ⟨fun pins s σ H Q I ⟨W, r, w, fr, hp⟩ => h1.run pins s σ H Q I (h2 W H σ r w fr Q hp)⟩

/-! ### what is walked -/
def Later (cm : Cm) (W : Addr → Prop) (H1 : Hp) (W' : Addr → Prop) (H2 : Hp) : Prop := (∀ a, W' a → W a ∨ H1 a = none) ∧ (∀ a o, H1 a = some o → ¬ W a → (t : isTb o = false := by rfl) → H2 a = some o) ∧ WOk cm W' H2
def IsIt (cm : Cm) (J : It) (items : List D) (W : Addr → Prop) (H1 : Hp) : Prop := ∀ W' H2 i, Later cm W H1 W' H2 → (∀ d, items[i]? = some d → J.go i H2 ∧ ∀ x H3, J.yld i H2 x H3 → Ex H2 H3 ∧ Rep cm W' H3 x d []) ∧ (items[i]? = none → J.stop i H2)
theorem Later.refl {cm : Cm} {W : Addr → Prop} {H : Hp} (w : WOk cm W H) : Later cm W H W H := ⟨fun _ h => .inl h, fun _ _ h _ _ => h, w⟩
structure DI (X : Cx) (cm : Cm) (E : XS) (tg iter : Expr) (f : Env → Out (List D)) : Prop where
  ex : ∃ wi, PI X tg iter wi ∧ ∀ W H σ r, WOk cm W H → FRep cm W H σ r → ∀ R, Post (f r) (fun items => ∀ J H1, Ex H H1 → IsIt cm J items W H1 → R J H1) (XPost cm (E σ) W H) → wi σ H R
theorem Rep.later {cm : Cm} {W W' : Addr → Prop} {H1 H2 : Hp} {v : V} {d : D} (h : Rep cm W H1 v d []) (l : Later cm W H1 W' H2) : Rep cm W' H2 v d [] := h.move l.1 fun a o q t w => by
  rcases w with w | w
  · exact l.2.1 a o q w t
  · cases w

section
variable {X : Cx} {cm : Cm} {E : XS} {b : Bool} {pos : Pos} {a c tg : Expr} {fa fb : F}
/-- a list -/
def iL (f : F) : Env → Out (List D) := fun r => (f r).bind fun d => match d with
  | .lst _ xs => .ok xs
  | _ => .bad
theorem di_list (ha : DE X cm E false a fa) : DI X cm E tg a (iL fa) := by
  obtain ⟨ta, h1, h2⟩ := ha.ex
  refine ⟨_, pi_list h1, fun W H σ r w fr R hp => h2 W H σ r w fr _ (hp.bind.mono (fun d q v H1 fp e1 r1 f1 => ?_) fun _ _ z => z)⟩
  split at q
  · cases (show fp = [] from f1)
    generalize hf : ([] : List Addr) = fp at r1
    cases r1 with
    | lstO => cases hf
    | lstF h n rs =>
      have n := fun z => n (.inl z)
      refine ⟨_, rfl, ⟨_, SqL.of h⟩, q _ H1 e1 fun W' H2 i l => ?_⟩
      have h2' := l.2.1 _ _ h n
      refine ⟨fun d hd => ?_, fun hd => ⟨_, SqL.of h2', by rw [rs.len]; exact List.getElem?_eq_none_iff.mp hd⟩⟩
      obtain ⟨u, hu, ru⟩ := rs.at rfl hd
      refine ⟨⟨_, _, SqL.of h2', hu⟩, fun x H3 y => ?_⟩
      obtain ⟨rfl, y⟩ := y
      have := y _ (SqL.of h2')
      rw [hu] at this
      cases this
      exact ⟨Ex.refl _, ru.ofP.later l⟩
  · exact q.elim
/-- a tuple -/
def iT (f : F) : Env → Out (List D) := fun r => (f r).bind fun d => match d with
  | .tup xs => .ok xs
  | _ => .bad
theorem di_tup (ha : DE X cm E false a fa) : DI X cm E tg a (iT fa) := by
  obtain ⟨ta, h1, h2⟩ := ha.ex
  refine ⟨_, pi_tup h1, fun W H σ r w fr R hp => h2 W H σ r w fr _ (hp.bind.mono (fun d q v H1 fp e1 r1 f1 => ?_) fun _ _ z => z)⟩
  split at q
  · cases (show fp = [] from f1)
    generalize hf : ([] : List Addr) = fp at r1
    cases r1 with
    | tup h n rs =>
      subst hf
      have n := fun z => n (.inl z)
      refine ⟨_, rfl, ⟨_, SqT.of h⟩, q _ H1 e1 fun W' H2 i l => ?_⟩
      have h2' := l.2.1 _ _ h n
      refine ⟨fun d hd => ?_, fun hd => ⟨_, SqT.of h2', by rw [rs.len]; exact List.getElem?_eq_none_iff.mp hd⟩⟩
      obtain ⟨u, hu, ru⟩ := rs.at rfl hd
      refine ⟨⟨_, _, SqT.of h2', hu⟩, fun x H3 y => ?_⟩
      obtain ⟨rfl, y⟩ := y
      have := y _ (SqT.of h2')
      rw [hu] at this
      cases this
      exact ⟨Ex.refl _, ru.ofP.later l⟩
  · exact q.elim
/-- a text -/
def iS (f : F) : Env → Out (List D) := fun r => (f r).bind fun d => match d with
  | .str cs => .ok (cs.map fun c => .str [c])
  | _ => .bad
theorem di_str (ha : DE X cm E false a fa) : DI X cm E tg a (iS fa) := by
  obtain ⟨ta, h1, h2⟩ := ha.ex
  refine ⟨_, pi_str h1, fun W H σ r w fr R hp => h2 W H σ r w fr _ (hp.bind.mono (fun d q v H1 fp e1 r1 f1 => ?_) fun _ _ z => z)⟩
  split at q
  · cases r1
    rename_i cs
    refine ⟨_, rfl, q _ H1 e1 fun W' H2 i l => ⟨fun d hd => ?_, fun hd => ?_⟩⟩
    · rw [List.getElem?_map] at hd
      obtain ⟨c, hc, rfl⟩ := Option.map_eq_some_iff.mp hd
      have hi : i < cs.length := (List.getElem?_eq_some_iff.mp hc).1
      refine ⟨by show i < cs.toArray.size; simpa using hi, fun x H3 y => ?_⟩
      obtain ⟨rfl, c', hc', rfl⟩ := y
      have : cs[i]? = some c' := by simpa using hc'
      rw [hc] at this
      cases this
      exact ⟨Ex.refl _, .str [c]⟩
    · rw [List.getElem?_map, Option.map_eq_none_iff] at hd
      show cs.toArray.size ≤ i
      simpa using List.getElem?_eq_none_iff.mp hd
  · exact q.elim
/-- range(n), range(lo, n) -/
def rng (lo : Int) (n : Nat) : List D := (List.range n).map fun i => .int (lo + (i : Nat))
theorem isIt_rng {lo : Int} {n : Nat} {W : Addr → Prop} {H1 : Hp} : IsIt cm (Itr lo n) (rng lo n) W H1 := fun W' H2 i l => by
  refine ⟨fun d hd => ?_, fun hd => ?_⟩
  · unfold rng at hd
    rw [List.getElem?_map] at hd
    obtain ⟨k, hk, rfl⟩ := Option.map_eq_some_iff.mp hd
    have hi : i < n := by
      have := (List.getElem?_eq_some_iff.mp hk).1
      simpa using this
    have hk' : k = i := by
      rw [List.getElem?_range hi] at hk
      exact (Option.some.inj hk).symm
    subst hk'
    refine ⟨hi, fun x H3 y => ?_⟩
    obtain ⟨rfl, rfl⟩ := y
    exact ⟨Ex.refl _, .int _⟩
  · unfold rng at hd
    rw [List.getElem?_map, Option.map_eq_none_iff] at hd
    have := List.getElem?_eq_none_iff.mp hd
    show n ≤ i
    simpa using this
def iR1 (fs : Env → Out (List D)) : Env → Out (List D) := fun r => (fs r).bind fun ds => match ds with
  | [.int j] => if -1000000 ≤ j ∧ j ≤ 1000000 then .ok (rng 0 j.toNat) else .bad
  | _ => .bad
def iR2 (fs : Env → Out (List D)) : Env → Out (List D) := fun r => (fs r).bind fun ds => match ds with
  | [.int i, .int j] => if (-1000000 ≤ i ∧ i ≤ 1000000) ∧ -1000000 ≤ j ∧ j ≤ 1000000 then .ok (rng i (j - i).toNat) else .bad
  | _ => .bad
theorem di_range1 {p : Pos} {fs : Env → Out (List D)} (hg : Gl X "range") (hm : X.mg "range" = none) (ha : DA X cm E false [a] fs) (hs : starEach [a] X.env = [(false, eval a X.env)] := by rfl) : DI X cm E tg (.Call (.Name "range" p) [a] [] pos) (iR1 fs) := by
  obtain ⟨ta, h1, h2⟩ := ha.ex
  refine ⟨_, pi_range1 hg hm h1 hs, fun W H σ r w fr R hp => h2 W H σ r w fr _ (hp.bind.mono (fun ds q vs H1 fp e1 r1 f1 => ?_) fun _ _ z => z)⟩
  split at q
  · split at q
    · rename_i hz
      cases r1 with
      | cons k1 k2 =>
        cases k1; cases k2
        exact ⟨_, rfl, by omega, by omega, q _ H1 e1 isIt_rng⟩
    · exact q.elim
  · exact q.elim
theorem di_range2 {p : Pos} {fs : Env → Out (List D)} (hg : Gl X "range") (hm : X.mg "range" = none) (ha : DA X cm E false [a, c] fs) (hs : starEach [a, c] X.env = [(false, eval a X.env), (false, eval c X.env)] := by rfl) (hs2 : starEach [c] X.env = [(false, eval c X.env)] := by rfl) : DI X cm E tg (.Call (.Name "range" p) [a, c] [] pos) (iR2 fs) := by
  obtain ⟨ta, h1, h2⟩ := ha.ex
  refine ⟨_, pi_range2 hg hm h1 hs hs2, fun W H σ r w fr R hp => h2 W H σ r w fr _ (hp.bind.mono (fun ds q vs H1 fp e1 r1 f1 => ?_) fun _ _ z => z)⟩
  split at q
  · split at q
    · rename_i hz
      cases r1 with
      | cons k1 k2 =>
        cases k1
        cases k2 with
        | cons k2 k3 =>
          cases k2; cases k3
          exact ⟨_, _, rfl, ⟨by omega, by omega, by omega, by omega⟩, q _ H1 e1 isIt_rng⟩
    · exact q.elim
  · exact q.elim

/-! ### targets -/
structure DG (X : Cx) (cm : Cm) (tg : Expr) (ts : List Nat) (g : D → Env → Out Env) : Prop where
  ex : ∃ t, PG X tg t ∧ ∀ W H σ r v d, FRep cm W H σ r → Rep cm W H v d [] → ∀ Q : St → Hp → Prop, Post (g d r) (fun r' => ∀ σ', FRep cm W H σ' r' → wipe σ' ts = wipe σ ts → Q σ' H) noX → t v σ H Q
structure DGs (X : Cx) (cm : Cm) (tgs : List Expr) (ts : List Nat) (g : List D → Env → Out Env) : Prop where
  ex : ∃ t, PGs X tgs t ∧ ∀ W H σ r vs ds, FRep cm W H σ r → Reps cm W H vs ds [] → ∀ Q : St → Hp → Prop, Post (g ds r) (fun r' => ∀ σ', FRep cm W H σ' r' → wipe σ' ts = wipe σ ts → Q σ' H) noX → t vs σ H Q
def sN (i : Nat) : D → Env → Out Env := fun d r => if i < r.length then .ok (r.set i (some d)) else .bad
def sNil : List D → Env → Out Env := fun ds r => match ds with
  | [] => .ok r
  | _ => .bad
def sCons (g : D → Env → Out Env) (h : List D → Env → Out Env) : List D → Env → Out Env := fun ds r => match ds with
  | d :: ds => (g d r).bind fun r1 => h ds r1
  | [] => .bad
def sT (n : Nat) (g : List D → Env → Out Env) : D → Env → Out Env := fun d r => match d with
  | .tup ds => if ds.length = n then g ds r else .bad
  | _ => .bad
theorem FRep.set {W : Addr → Prop} {H : Hp} {σ : St} {r : Env} {v : V} {d : D} (fr : FRep cm W H σ r) (rp : Rep cm W H v d []) (i : Nat) : FRep cm W H (σ.set i (some v)) (r.set i (some d)) := by
  refine ⟨by rw [List.length_set, List.length_set, fr.1], fun j d' h => ?_⟩
  rw [List.getElem?_set] at h ⊢
  by_cases e : i = j
  · subst e
    rw [if_pos rfl] at h ⊢
    split at h
    · rename_i hl
      cases h
      rw [if_pos (by rw [fr.1]; exact hl)]
      exact ⟨v, rfl, rp⟩
    · cases h
  · rw [if_neg e] at h ⊢
    exact fr.2 j d' h
theorem wipe_set {σ : St} {i : Nat} {x : Option V} : ∀ {ts : List Nat}, i ∈ ts → wipe (σ.set i x) ts = wipe σ ts
  | [], h => nomatch h
  | t :: ts, h => by
    show (wipe (σ.set i x) ts).set t none = (wipe σ ts).set t none
    by_cases e : i ∈ ts
    · rw [wipe_set e]
    · have : i = t := (List.mem_cons.mp h).resolve_right e
      subst this
      clear h
      have gen : ∀ ts : List Nat, i ∉ ts → wipe (σ.set i x) ts = (wipe σ ts).set i x := by
        intro ts
        induction ts with
        | nil => intro _; rfl
        | cons u us ih =>
          intro hu
          have h1 : i ≠ u := fun z => hu (by simp [z])
          have h2 : i ∉ us := fun z => hu (by simp [z])
          show (wipe (σ.set i x) us).set u none = ((wipe σ us).set u none).set i x
          rw [ih h2, List.set_comm _ _ h1]
      rw [gen ts e, List.set_set]
theorem wipe_sub {σ σ' : St} {us : List Nat} : ∀ {ts : List Nat}, wipe σ' us = wipe σ us → (∀ i ∈ us, i ∈ ts) → wipe σ' ts = wipe σ ts := by
  have gen : ∀ (ts : List Nat) (τ : St) (j : Nat), (wipe τ ts)[j]? = if j ∈ ts ∧ j < τ.length then some none else τ[j]? := by
    intro ts τ j
    induction ts with
    | nil => simp [wipe]
    | cons t ts ih =>
      show ((wipe τ ts).set t none)[j]? = _
      rw [List.getElem?_set, wipe_length]
      by_cases e : t = j
      · subst e
        simp
        split
        · rfl
        · rename_i h
          rw [List.getElem?_eq_none (by omega)]
      · rw [if_neg e, ih]
        have : j ≠ t := fun z => e z.symm
        simp [this]
  intro ts h hs
  have hl : σ'.length = σ.length := by
    have := congrArg List.length h
    rwa [wipe_length, wipe_length] at this
  apply List.ext_getElem?
  intro j
  rw [gen, gen, hl]
  by_cases hj : j ∈ ts ∧ j < σ.length
  · rw [if_pos hj, if_pos hj]
  · rw [if_neg hj, if_neg hj]
    have h2 := congrArg (fun l : St => l[j]?) h
    simp only [gen, hl] at h2
    by_cases hu : j ∈ us ∧ j < σ.length
    · exact absurd ⟨hs j hu.1, hu.2⟩ hj
    · rw [if_neg hu, if_neg hu] at h2
      exact h2
theorem dg_name (i : Nat) {x : Str} (hN : X.N.Nodup) (hi : X.N[i]? = some x := by rfl) (hx : Loc X.env.scope x := by first | exact Or.inl rfl | exact Or.inr rfl) (hf : X.fn x = true ∨ X.env.scope.names.lookup x = some .local := by first | exact .inl rfl | exact .inr rfl | assumption) : DG X cm (.Name x pos) [i] (sN i) := by
  refine ⟨_, pg_name hN hi hx hf, fun W H σ r v d fr rp Q hp => ?_⟩
  unfold sN at hp
  split at hp
  · exact hp _ (fr.set rp i) (wipe_set (by simp))
  · exact hp.elim
theorem dgs_nil : DGs X cm [] [] sNil := by
  refine ⟨_, pgs_nil, fun W H σ r vs ds fr rp Q hp => ?_⟩
  unfold sNil at hp
  split at hp
  · cases rp
    exact ⟨rfl, hp σ fr rfl⟩
  · exact hp.elim
theorem dgs_cons {e : Expr} {es : List Expr} {ts us : List Nat} {g : D → Env → Out Env} {h : List D → Env → Out Env} (h1 : DG X cm e ts g) (h2 : DGs X cm es us h)
    (hs : (assignEach (e :: es) X.env).map (·.2) = assign e X.env :: (assignEach es X.env).map (·.2) := by rfl) : DGs X cm (e :: es) (ts ++ us) (sCons g h) := by
  obtain ⟨t, a1, a2⟩ := h1.ex
  obtain ⟨u, b1, b2⟩ := h2.ex
  refine ⟨_, pgs_cons a1 b1 hs, fun W H σ r vs ds fr rp Q hp => ?_⟩
  unfold sCons at hp
  split at hp
  · generalize hf : ([] : List Addr) = fp at rp
    cases rp with
    | cons k1 k2 =>
      obtain ⟨rfl, rfl⟩ := app_nil hf
      refine ⟨_, _, rfl, a2 W H σ r _ _ fr k1 _ (hp.bind.mono (fun r1 q σ1 fr1 w1 => ?_) fun _ _ z => z)⟩
      refine b2 W H σ1 r1 _ _ fr1 k2 _ (q.mono (fun r2 q2 σ2 fr2 w2 => q2 σ2 fr2 ?_) fun _ _ z => z)
      rw [wipe_sub w2 (fun i hi => List.mem_append_right _ hi), wipe_sub w1 (fun i hi => List.mem_append_left _ hi)]
  · exact hp.elim
theorem dg_tup {es : List Expr} {k : Nat} {ts : List Nat} {g : List D → Env → Out Env} {n : Nat} (hc : X.calm = true) (h : DGs X cm es ts g) (hn : (assignEach es X.env).length = n := by rfl) (hst : (assignEach es X.env).findIdx? (·.1) = none := by rfl) : DG X cm (.Tuple es k pos) ts (sT n g) := by
  obtain ⟨t, a1, a2⟩ := h.ex
  refine ⟨_, pg_tup hc a1 hn hst, fun W H σ r v d fr rp Q hp => ?_⟩
  unfold sT at hp
  split at hp
  · split at hp
    · rename_i hl
      generalize hf : ([] : List Addr) = fp at rp
      cases rp with
      | tup h n rs =>
        subst hf
        exact ⟨_, _, rfl, SqT.of h, by rw [rs.len]; exact hl, a2 W H σ r _ _ fr rs Q hp⟩
    · exact hp.elim
  · exact hp.elim
/-- the canonical reading of a target -/
def tgOf (cm : Cm) (ts : List Nat) (g : D → Env → Out Env) : TG := fun v σ H Q => ∃ W r d, FRep cm W H σ r ∧ Rep cm W H v d [] ∧ Post (g d r) (fun r' => ∀ σ', FRep cm W H σ' r' → wipe σ' ts = wipe σ ts → Q σ' H) noX
theorem DG.pg {ts : List Nat} {g : D → Env → Out Env} (h : DG X cm tg ts g) : PG X tg (tgOf cm ts g) := by
  obtain ⟨t, a1, a2⟩ := h.ex
  exact ⟨fun pins s σ H v u Q I r ⟨W, rr, d, fr, rp, hp⟩ => a1.run pins s σ H v u Q I r (a2 W H σ rr v d fr rp Q hp)⟩

/-! ### a list comprehension -/
structure DTs (X : Cx) (cm : Cm) (E : XS) (es : List Expr) (f : Env → Out Bool) : Prop where
  ex : ∃ te, PTs X es te ∧ TCon cm E te f
def tYes' : Env → Out Bool := fun _ => .ok true
theorem dts_nil : DTs X cm E [] tYes' := ⟨_, pts_nil, fun W H σ r w fr Q hp => hp H (Ex.refl H)⟩
theorem dts_one {f : Env → Out Bool} (h : DT X cm E a f) : DTs X cm E [a] f := by
  obtain ⟨te, h1, h2⟩ := h.ex
  exact ⟨_, pts_one h1, h2⟩
theorem DTs.pts {es : List Expr} {f : Env → Out Bool} (h : DTs X cm E es f) : PTs X es (ttOf cm E f) := by
  obtain ⟨te, h1, h2⟩ := h.ex
  exact ⟨fun pins s σ H Q I ⟨W, r, w, fr, hp⟩ => h1.run pins s σ H Q I (h2 W H σ r w fr Q hp)⟩
def wipeE (r : Env) : List Nat → Env
  | [] => r
  | v :: vs => (wipeE r vs).set v none
def turn (vs : List Nat) (g : D → Env → Out Env) (tt : Env → Out Bool) (el : F) (r : Env) (d : D) : Out (Option D) :=
  (g d (wipeE r vs)).bind fun r2 => (tt r2).bind fun b => if b = true then (el r2).bind fun y => .ok (some y) else .ok none
def turns (h : D → Out (Option D)) : List D → Out (List D)
  | [] => .ok []
  | d :: ds => (h d).bind fun o => (turns h ds).bind fun ys => .ok (match o with | some y => y :: ys | none => ys)
/-- what is raised is nothing here -/
def safe {α : Type} : Out α → Out α
  | .ok a => .ok a
  | _ => .bad
theorem Post.safe {α : Type} {o : Out α} {q : α → Prop} {e : Xc → Env → Prop} (h : Post (DL.safe o) q e) : Post o q DL.noX := by
  cases o <;> exact h
def cLc (it : Env → Out (List D)) (vs : List Nat) (g : D → Env → Out Env) (tt : Env → Out Bool) (el : F) : F := fun r => (it r).bind fun ds => if ds.length ≤ 1000000 then (safe (turns (turn vs g tt el r) ds)).bind fun ys => .ok (.lst true ys) else .bad
theorem FRep.wipe {W : Addr → Prop} {H : Hp} {σ : St} {r : Env} (fr : FRep cm W H σ r) : ∀ vs : List Nat, FRep cm W H (L2.wipe σ vs) (wipeE r vs)
  | [] => fr
  | v :: vs => by
    have ih := FRep.wipe fr vs
    refine ⟨by show ((L2.wipe σ vs).set v none).length = ((wipeE r vs).set v none).length; rw [List.length_set, List.length_set, ih.1], fun j d h => ?_⟩
    have h : ((wipeE r vs).set v none)[j]? = some (some d) := h
    show ∃ u, ((L2.wipe σ vs).set v none)[j]? = some (some u) ∧ _
    rw [List.getElem?_set] at h ⊢
    by_cases e : v = j
    · rw [if_pos e] at h
      split at h <;> cases h
    · rw [if_neg e] at h ⊢
      exact ih.2 j d h
theorem wipe_wipe (σ : St) (vs : List Nat) : wipe (wipe σ vs) vs = wipe σ vs := by
  have gen : ∀ (us : List Nat) (τ : St), (∀ i ∈ us, i ∈ vs) → wipe (wipe τ us) vs = wipe τ vs := by
    intro us
    induction us with
    | nil => intro τ _; rfl
    | cons u us ih =>
      intro τ h
      show wipe ((wipe τ us).set u none) vs = wipe τ vs
      rw [wipe_set (h u (by simp)), ih τ fun i hi => h i (by simp [hi])]
  exact gen vs σ fun _ h => h
abbrev E0' : XS := fun _ _ _ _ => False
theorem xpost0 {W : Addr → Prop} {H : Hp} {σ : St} {x : Xc} {r : Env} (h : noX x r) : XPost cm (E0' σ) W H x r := h.elim
theorem lc_con {ts : List Nat} {it : Env → Out (List D)} {g : D → Env → Out Env} {tt : Env → Out Bool} {el : F} {wi : TI} (i2 : ∀ W H σ r, WOk cm W H → FRep cm W H σ r → ∀ R, Post (it r) (fun items => ∀ J H1, Ex H H1 → IsIt cm J items W H1 → R J H1) (XPost cm (E σ) W H) → wi σ H R) :
    ECon cm E true (tLc wi (tgOf cm ts g) (ttOf cm E0' tt) (teOf cm E0' true el) ts) (cLc it ts g tt el) := by
  intro W H σ r w fr Q hp
  refine i2 W H σ r w fr _ (hp.bind.mono (fun ds q J H1 e1 isit => ?_) fun _ _ z => z)
  split at q
  case isFalse => exact q.elim
  rename_i hlen
  intro Dl hD
  have q := (Post.bind q).safe
  let W2 : List Addr → Addr → Prop := fun fp a => W a ∨ a = Dl ∨ a ∈ fp
  have hW2 : ∀ fp, FpN true H1 fp → ∀ a, W2 fp a → W a ∨ H1 a = none := fun fp hf a z => by
    rcases z with z | z | z
    · exact .inl z
    · exact .inr (by rw [z]; exact hD)
    · exact .inr (hf.2 a z)
  have ag : ∀ H2 fp, Ex H1 H2 → (∃ vs, H2 Dl = some (.lst vs)) → FpN true H1 fp → (∀ a ∈ fp, MutAt H2 a) → Later cm W H1 (W2 fp) H2 := fun H2 fp e2 hv hf hm => ⟨hW2 fp hf, fun a o z _ t => e2.get a o z t, fun a z => by
    rcases z with z | z | z
    · exact ((w.ex e1).ex e2).1 a z
    · obtain ⟨vs, hv⟩ := hv
      rw [z]
      exact ⟨_, hv, rfl⟩
    · exact hm a z, ((w.ex e1).ex e2).2⟩
  have frW : ∀ H2 fp, Ex H1 H2 → FpN true H1 fp → FRep cm (W2 fp) H2 (wipe σ ts) (wipeE r ts) := fun H2 fp e2 hf => by
    have f1 := (fr.wipe ts).ex e1
    refine ⟨f1.1, fun i d h => ?_⟩
    obtain ⟨v, k1, k2⟩ := f1.2 i d h
    exact ⟨v, k1, k2.move (hW2 fp hf) fun a o z t _ => e2.get a o z t⟩
  refine ⟨fun i m H' => m = ds.length - i ∧ i ≤ ds.length ∧ Ex H1 H' ∧ ∃ ys vs fp, ys.length ≤ i ∧ H' Dl = some (.lst vs) ∧ Reps cm (W2 fp) H' vs ys fp ∧ FpN true H1 fp ∧ Dl ∉ fp ∧
      Post (turns (turn ts g tt el r) (ds.drop i)) (fun zs => QP cm W true H Q (.lst true (ys ++ zs))) noX, ⟨ds.length, by simp, Nat.zero_le _, Ex.new hD, [], [], [], Nat.le_refl _, upd_same, .nil, FpN.nil, by simp, q⟩, ?_⟩
  rintro i m H' ⟨rfl, hi, e2, ys, vs, fp, hy, hDl, hr, hf, hDf, hq⟩
  have hl := ag H' fp e2 ⟨_, hDl⟩ hf fun a m => hr.own a m
  by_cases hlt : i < ds.length
  · right
    obtain ⟨d, hd⟩ : ∃ d, ds[i]? = some d := ⟨ds[i], by simp [hlt]⟩
    obtain ⟨go, yl⟩ := (isit (W2 fp) H' i hl).1 d hd
    refine ⟨go, fun H5 => Ex H1 H5 ∧ ∃ ys vs fp, ys.length ≤ i + 1 ∧ H5 Dl = some (.lst vs) ∧ Reps cm (W2 fp) H5 vs ys fp ∧ FpN true H1 fp ∧ Dl ∉ fp ∧
      Post (turns (turn ts g tt el r) (ds.drop (i + 1))) (fun zs => QP cm W true H Q (.lst true (ys ++ zs))) noX, fun H5 h5 => ⟨ds.length - (i + 1), by omega, rfl, hlt, h5⟩, fun x H3 y => ?_⟩
    obtain ⟨e3, r3⟩ := yl x H3 y
    have w3 : WOk cm (W2 fp) H3 := (hl.2.2).ex e3
    have eH : Ex H1 H3 := e2.trans e3
    have hdrop : ds.drop i = d :: ds.drop (i + 1) := by
      rw [List.drop_eq_getElem_cons hlt]
      congr 1
      have := List.getElem?_eq_getElem hlt
      rw [this] at hd
      exact Option.some.inj hd
    rw [hdrop] at hq
    have hq := Post.bind hq
    refine ⟨W2 fp, wipeE r ts, d, frW H3 fp (e2.trans e3) hf, r3, (Post.bind hq).mono (fun r2 q2 σ2 fr2 w2 => ⟨by rw [w2, wipe_wipe], ?_⟩) fun _ _ z => z⟩
    refine ⟨W2 fp, r2, w3, fr2, (Post.bind q2).mono (fun bb q3 H4 e4 => ?_) fun _ _ z => z.elim⟩
    cases bb with
    | false =>
      refine ⟨(e2.trans e3).trans e4, ys, vs, fp, by omega, e4 _ _ (e3 _ _ hDl), (hr.ex e3).ex e4, hf, hDf, ?_⟩
      exact (Post.bind q3).mono (fun zs z => z) fun _ _ z => z
    | true =>
      refine ⟨W2 fp, r2, w3.ex e4, fr2.ex e4, (Post.bind (o := el r2) q3).mono (fun y q4 v5 H5 fp5 e5 r5 f5 => ?_) fun _ _ z => z.elim⟩
      have hD5 : H5 Dl = some (.lst vs) := e5 _ _ (e4 _ _ (e3 _ _ hDl))
      have hvl := hr.len
      refine ⟨vs, hD5, Nat.lt_of_lt_of_le (show vs.length < 1000000 by omega) (by decide), ?_⟩
      have hnD : ∀ a ∈ fp5, a ≠ Dl := fun a m z => by
        subst z
        have := f5.2 _ m
        rw [e4 _ _ (e3 _ _ hDl)] at this
        cases this
      have nDn : ∀ a ∈ fp ++ fp5, a ≠ Dl := fun a m z => by
        rcases List.mem_append.mp m with m | m
        · subst z; exact hDf m
        · exact hnD a m z
      refine ⟨Ex.updM (((e2.trans e3).trans e4).trans e5) hD ⟨_, ((e3.trans e4).trans e5) _ _ hDl, rfl⟩, ys ++ [y], vs ++ [v5], fp ++ fp5, by simp; omega, upd_same, ?_, ?_, ?_, ?_⟩
      · have keep : ∀ a o, H5 a = some o → isTb o = false → (¬ W2 (fp ++ fp5) a ∨ a ∈ fp ++ fp5) → upd H5 Dl (.lst (vs ++ [v5])) a = some o := fun a o z _ c => by
          rw [upd_ne]
          · exact z
          · rcases c with c | c
            · exact fun q => c (.inr (.inl q))
            · exact nDn a c
        have up : ∀ a, W2 (fp ++ fp5) a → W2 fp a ∨ a ∈ fp5 := fun a z => by
          rcases z with z | z | z
          · exact .inl (.inl z)
          · exact .inl (.inr (.inl z))
          · rcases List.mem_append.mp z with z | z
            · exact .inl (.inr (.inr z))
            · exact .inr z
        have h1 : Reps cm (W2 (fp ++ fp5)) H5 vs ys fp := ((hr.ex e3).ex e4).move (fun a z => (up a z).imp id (f5.2 a)) fun a o z t _ => e5.get a o z t
        have h2 : Rep cm (W2 (fp ++ fp5)) H5 v5 y fp5 := r5.move (fun a z => .inl (up a z)) fun _ _ z _ _ => z
        have all : Reps cm (W2 (fp ++ fp5)) H5 (vs ++ [v5]) (ys ++ [y]) (fp ++ (fp5 ++ [])) := Reps.app h1 (.cons h2 .nil)
        rw [List.append_nil] at all
        exact all.move (fun a z => .inl z) keep
      · exact fpN_app hf (fun a m => (((hr.ex e3).ex e4).own a m).there) (eH.trans e4) f5
      · exact fun m => nDn _ m rfl
      · refine (Post.bind q4).mono (fun zs z => ?_) fun _ _ z => z
        rw [List.append_assoc]
        exact z
  · left
    have e : i = ds.length := by omega
    subst e
    refine ⟨(isit (W2 fp) H' _ hl).2 (by simp), ?_⟩
    rw [List.drop_length] at hq
    have hq : QP cm W true H Q (.lst true (ys ++ [])) := hq
    rw [List.append_nil] at hq
    refine hq (.ref Dl) H' (Dl :: fp) (e1.trans e2) (.lstO hDl (hr.move (fun a z => .inl ?_) fun a o z _ _ => z)) ⟨List.nodup_cons.mpr ⟨hDf, hf.1⟩, fun a m => ?_⟩
    · rcases z with z | z
      · exact .inl z
      · exact .inr (List.mem_cons.mp z)
    · rcases List.mem_cons.mp m with rfl | m
      · exact e1.back hD
      · exact e1.back (hf.2 a m)
theorem de_lc {elt iter : Expr} {ifs : List Expr} {scope : Scope} {own : List (Str × Nat)} {ts : List Nat} {it : Env → Out (List D)} {g : D → Env → Out Env} {tt : Env → Out Bool} {el : F} (hc : X.calm = true) (hN : X.N.Nodup) (hi : DI X cm E tg iter it) (ok : BlkOk X.N X.env.scope scope own) (hts : own.map (·.2) = ts)
    (hg : ∀ (s : Shared) (H : Hp) (C : Addr) (cl : List (Str × Addr)) (fp : List Addr), DG (X.blk s H scope (compEnvC scope cl C X.env) fp) cm tg ts g) (ht : ∀ (s : Shared) (H : Hp) (C : Addr) (cl : List (Str × Addr)) (fp : List Addr), DTs (X.blk s H scope (compEnvC scope cl C X.env) fp) cm E0' ifs tt)
    (he : ∀ (s : Shared) (H : Hp) (C : Addr) (cl : List (Str × Addr)) (fp : List Addr), DE (X.blk s H scope (compEnvC scope cl C X.env) fp) cm E0' true elt el) (hs : ∀ x, foldedSetIterable iter X.env x = pure x := by intro _; rfl) :
    DE X cm E true (.ListComp elt [⟨tg, iter, ifs, 0⟩] scope pos) (cLc it ts g tt el) := by
  obtain ⟨wi, i1, i2⟩ := hi.ex
  refine ⟨_, pe_lc hc hN i1 ok (fun s H C cl fp => (hg s H C cl fp).pg) (fun s H C cl fp => (ht s H C cl fp).pts) (fun s H C cl fp => (he s H C cl fp).pe) hs, ?_⟩
  rw [hts]
  exact lc_con i2
end
end DL

namespace DL
variable [Tbs]
open PySem L2

abbrev Fps := Nat → List Addr
abbrev Wof (W0 : Addr → Prop) (fps : Fps) : Addr → Prop := fun a => W0 a ∨ ∃ j, a ∈ fps j
structure Good (cm : Cm) (W0 : Addr → Prop) (H : Hp) (σ : St) (r : Env) (fps : Fps) : Prop where
  len : σ.length = r.length
  w0 : WOk cm W0 H
  sl : ∀ (i : Nat) d, r[i]? = some (some d) → ∃ v, σ[i]? = some (some v) ∧ Rep cm (Wof W0 fps) H v d (fps i)
  nd : ∀ i, (fps i).Nodup
  dj : ∀ i j a, a ∈ fps i → a ∈ fps j → i = j
  nw : ∀ i a, a ∈ fps i → ¬ W0 a
  mu : ∀ i a, a ∈ fps i → MutAt H a
structure Fram (H : Hp) (fps : Fps) (H' : Hp) (fps' : Fps) (fpv : List Addr) : Prop where
  keep : ∀ a o, H a = some o → (∀ i, a ∉ fps i) → (t : isTb o = false := by rfl) → H' a = some o
  old : ∀ i a, a ∈ fps' i → (∃ j, a ∈ fps j) ∨ H a = none
  oldv : ∀ a ∈ fpv, (∃ j, a ∈ fps j) ∨ H a = none
  back : ∀ a, H' a = none → H a = none
  tb : LamX.Tabs Tbs.T H → LamX.Tabs Tbs.T H'
theorem Fram.refl (H : Hp) (fps : Fps) : Fram H fps H fps [] := ⟨fun _ _ h _ _ => h, fun i a h => .inl ⟨i, h⟩, fun _ h => (nomatch h), fun _ h => h, fun h => h⟩
theorem Fram.of_ex {H H' : Hp} {fps : Fps} {fpv : List Addr} (e : Ex H H') (hf : ∀ a ∈ fpv, H a = none) : Fram H fps H' fps fpv := ⟨fun a o h _ t => e.get a o h t, fun i a h => .inl ⟨i, h⟩, fun a m => .inr (hf a m), fun _ h => e.back h, e.tb⟩
theorem Fram.trans {H H1 H2 : Hp} {fps f1 f2 : Fps} {v1 v2 : List Addr} (a : Fram H fps H1 f1 v1) (b : Fram H1 f1 H2 f2 v2) : Fram H fps H2 f2 v2 where
  keep := fun c o h n t => b.keep c o (a.keep c o h n t) (fun i m => by
    rcases a.old i c m with ⟨j, q⟩ | q
    · exact n j q
    · rw [h] at q; cases q) t
  tb := fun h => b.tb (a.tb h)
  old := fun i c m => by
    rcases b.old i c m with ⟨j, q⟩ | q
    · exact a.old j c q
    · exact .inr (a.back c q)
  oldv := fun c m => by
    rcases b.oldv c m with ⟨j, q⟩ | q
    · exact a.old j c q
    · exact .inr (a.back c q)
  back := fun c h => a.back c (b.back c h)
theorem Fram.addv {H H1 : Hp} {fps f1 : Fps} {v1 v2 : List Addr} (a : Fram H fps H1 f1 v1) (h : ∀ c ∈ v2, (∃ j, c ∈ fps j) ∨ H c = none) : Fram H fps H1 f1 v2 := ⟨@Fram.keep _ _ _ _ _ _ a, a.old, h, a.back, a.tb⟩

abbrev FX := Env → Out (D × Env)
abbrev QX (cm : Cm) (W0 : Addr → Prop) (H : Hp) (σ : St) (fps : Fps) (Q : VK) : D × Env → Prop := fun p => ∀ v H' fps' fpv, Good cm (Wp W0 fpv) H' σ p.2 fps' → Rep cm (Wof (Wp W0 fpv) fps') H' v p.1 fpv → fpv.Nodup → (∀ a ∈ fpv, ¬ W0 a) → Fram H fps H' fps' fpv → Q v H'
abbrev QXT (cm : Cm) (W0 : Addr → Prop) (H : Hp) (σ : St) (fps : Fps) (Q : Bool → Hp → Prop) : Bool × Env → Prop := fun p => ∀ H' fps', Good cm W0 H' σ p.2 fps' → Fram H fps H' fps' [] → Q p.1 H'
abbrev QXA (cm : Cm) (W0 : Addr → Prop) (H : Hp) (σ : St) (fps : Fps) (Q : List V → Hp → Prop) : List D × Env → Prop := fun p => ∀ vs H' fps' fpv, Good cm (Wp W0 fpv) H' σ p.2 fps' → Reps cm (Wof (Wp W0 fpv) fps') H' vs p.1 fpv → fpv.Nodup → (∀ a ∈ fpv, ¬ W0 a) → Fram H fps H' fps' fpv → Q vs H'
def XX (cm : Cm) (E : XS) (W0 : Addr → Prop) (H : Hp) (σ : St) (fps : Fps) : Xc → Env → Prop := fun x r' => ∀ H' fps' dx, Good cm W0 H' σ r' fps' → Fram H fps H' fps' [] → XRep cm (Wof W0 fps') H' x dx → E σ (.ref (cm.cl x.cls)) dx H'
structure XE (X : Cx) (cm : Cm) (E : XS) (e : Expr) (f : FX) : Prop where
  ex : ∃ te, PE X e te ∧ ∀ W0 H σ r fps, Good cm W0 H σ r fps → ∀ Q, Post (f r) (QX cm W0 H σ fps Q) (XX cm E W0 H σ fps) → te σ H Q
structure XT (X : Cx) (cm : Cm) (E : XS) (e : Expr) (f : Env → Out (Bool × Env)) : Prop where
  ex : ∃ te, PT X e te ∧ ∀ W0 H σ r fps, Good cm W0 H σ r fps → ∀ Q, Post (f r) (QXT cm W0 H σ fps Q) (XX cm E W0 H σ fps) → te σ H Q
structure XW (X : Cx) (cm : Cm) (E : XS) (e : Expr) (f : Env → Out (Bool × Env)) : Prop where
  ex : ∃ te, PW X e te ∧ ∀ W0 H σ r fps, Good cm W0 H σ r fps → ∀ Q, Post (f r) (QXT cm W0 H σ fps Q) (XX cm E W0 H σ fps) → te σ H Q
structure XA (X : Cx) (cm : Cm) (E : XS) (es : List Expr) (f : Env → Out (List D × Env)) : Prop where
  ex : ∃ te, PA X es te ∧ ∀ W0 H σ r fps, Good cm W0 H σ r fps → ∀ Q, Post (f r) (QXA cm W0 H σ fps Q) (XX cm E W0 H σ fps) → te σ H Q

/-! ### what an expression without effect sees -/
def viewF (p : Nat → Bool) : Nat → Env → Env
  | _, [] => []
  | k, o :: r => (if p k = true then o.map frz else none) :: viewF p (k + 1) r
def frzF (p : Nat → Bool) : Nat → Env → Env
  | _, [] => []
  | k, o :: r => (if p k = true then o.map frz else o) :: frzF p (k + 1) r
abbrev view (ns : List Nat) (r : Env) : Env := viewF (fun k => ns.contains k) 0 r
abbrev frzN (ns : List Nat) (r : Env) : Env := frzF (fun k => ns.contains k) 0 r
theorem viewF_get (p : Nat → Bool) : ∀ (r : Env) (k i : Nat), (viewF p k r)[i]? = (r[i]?).map fun o => if p (k + i) = true then o.map frz else none
  | [], k, i => by simp [viewF]
  | o :: r, k, 0 => by simp [viewF]
  | o :: r, k, i + 1 => by
    simp only [viewF, List.getElem?_cons_succ, viewF_get p r (k + 1) i]
    rw [show k + 1 + i = k + (i + 1) by omega]
theorem frzF_get (p : Nat → Bool) : ∀ (r : Env) (k i : Nat), (frzF p k r)[i]? = (r[i]?).map fun o => if p (k + i) = true then o.map frz else o
  | [], k, i => by simp [frzF]
  | o :: r, k, 0 => by simp [frzF]
  | o :: r, k, i + 1 => by
    simp only [frzF, List.getElem?_cons_succ, frzF_get p r (k + 1) i]
    rw [show k + 1 + i = k + (i + 1) by omega]
theorem viewF_len (p : Nat → Bool) : ∀ (r : Env) (k : Nat), (viewF p k r).length = r.length
  | [], k => rfl
  | o :: r, k => by simp [viewF, viewF_len p r]
theorem frzF_len (p : Nat → Bool) : ∀ (r : Env) (k : Nat), (frzF p k r).length = r.length
  | [], k => rfl
  | o :: r, k => by simp [frzF, frzF_len p r]
def lift (ns : List Nat) (f : F) : FX := fun r => match f (view ns r) with
  | .ok d => .ok (d, if shr d = true then frzN ns r else r)
  | .exn x _ => .exn x (if shrs x.ds = true then frzN ns r else r)
  | .bad => .bad
def liftT (ns : List Nat) (f : Env → Out Bool) : Env → Out (Bool × Env) := fun r => match f (view ns r) with
  | .ok b => .ok (b, r)
  | .exn x _ => .exn x (if shrs x.ds = true then frzN ns r else r)
  | .bad => .bad
def liftA (ns : List Nat) (f : Env → Out (List D)) : Env → Out (List D × Env) := fun r => match f (view ns r) with
  | .ok ds => .ok (ds, if shrs ds = true then frzN ns r else r)
  | .exn x _ => .exn x (if shrs x.ds = true then frzN ns r else r)
  | .bad => .bad

section
variable {X : Cx} {cm : Cm} {E : XS} {b : Bool} {pos : Pos} {W0 : Addr → Prop} {H H' : Hp} {σ : St} {r : Env} {fps : Fps}
theorem Good.wof (g : Good cm W0 H σ r fps) : WOk cm (Wof W0 fps) H := ⟨fun a z => by
  rcases z with z | ⟨j, z⟩
  · exact g.w0.1 a z
  · exact g.mu j a z, g.w0.2⟩
theorem Good.ex (g : Good cm W0 H σ r fps) (e : Ex H H') : Good cm W0 H' σ r fps where
  len := g.len
  w0 := g.w0.ex e
  sl := fun i d h => by
    obtain ⟨v, h1, h2⟩ := g.sl i d h
    exact ⟨v, h1, h2.ex e⟩
  nd := g.nd
  dj := g.dj
  nw := g.nw
  mu := fun i a m => (g.mu i a m).ex e
/-- the rest's own nodes -/
abbrev Wr (W0 : Addr → Prop) (fps : Fps) (ns : List Nat) : Addr → Prop := fun a => W0 a ∨ ∃ j, ns.contains j = false ∧ a ∈ fps j
theorem Wr.sub {ns : List Nat} {a : Addr} (z : Wr W0 fps ns a) : Wof W0 fps a := z.imp id fun ⟨j, _, m⟩ => ⟨j, m⟩
theorem Good.view (g : Good cm W0 H σ r fps) (ns : List Nat) : FRep cm (Wr W0 fps ns) H σ (view ns r) := by
  refine ⟨by rw [viewF_len, g.len], fun i d h => ?_⟩
  rw [viewF_get, Nat.zero_add] at h
  obtain ⟨o, h1, h2⟩ := Option.map_eq_some_iff.mp h
  split at h2
  · rename_i hc
    obtain ⟨d', rfl, rfl⟩ := Option.map_eq_some_iff.mp h2
    obtain ⟨v, q1, q2⟩ := g.sl i d' h1
    refine ⟨v, q1, q2.frz (fun a z => z.sub) fun a m z => ?_⟩
    rcases z with z | ⟨j, hj, m'⟩
    · exact g.nw i a m z
    · have := g.dj i j a m m'
      subst this
      rw [hc] at hj; cases hj
  · cases h2
theorem Good.wr (g : Good cm W0 H σ r fps) (ns : List Nat) : WOk cm (Wr W0 fps ns) H := ⟨fun a z => g.wof.1 a z.sub, g.w0.2⟩
/-- own nodes of the value behind an expression without effect -/
theorem Good.addv (g : Good cm W0 H σ r fps) {fpv : List Addr} (e : Ex H H') (hf : ∀ a ∈ fpv, H a = none) (hm : ∀ a ∈ fpv, MutAt H' a) : Good cm (Wp W0 fpv) H' σ r fps where
  len := g.len
  w0 := (g.w0.ex e).p (cm := cm) hm
  sl := fun i d h => by
    obtain ⟨v, h1, h2⟩ := g.sl i d h
    refine ⟨v, h1, h2.move (fun a z => ?_) fun a o q t _ => e.get a o q t⟩
    rcases z with (z | z) | z
    · exact .inl (.inl z)
    · exact .inr (hf a z)
    · exact .inl (.inr z)
  nd := g.nd
  dj := g.dj
  nw := fun i a m z => z.elim (g.nw i a m) fun z => (g.mu i a m).there (hf a z)
  mu := fun i a m => (g.mu i a m).ex e
theorem Good.frzN (g : Good cm W0 H σ r fps) (ns : List Nat) : Good cm W0 H σ (frzN ns r) (fun j => if ns.contains j = true then [] else fps j) := by
  have sub : ∀ {j a}, a ∈ (if ns.contains j = true then [] else fps j) → ns.contains j = false ∧ a ∈ fps j := fun {j a} m => by
    split at m
    · cases m
    · rename_i h
      exact ⟨by simpa using h, m⟩
  refine ⟨by rw [frzF_len, g.len], g.w0, fun i d h => ?_, fun i => ?_, fun i j a m m' => g.dj i j a (sub m).2 (sub m').2, fun i a m => g.nw i a (sub m).2, fun i a m => g.mu i a (sub m).2⟩
  · rw [frzF_get, Nat.zero_add] at h
    obtain ⟨o, h1, h2⟩ := Option.map_eq_some_iff.mp h
    have wsub : ∀ a, Wof W0 (fun j => if ns.contains j = true then [] else fps j) a → Wof W0 fps a := fun a z => z.imp id fun ⟨j, m⟩ => ⟨j, (sub m).2⟩
    split at h2
    · rename_i hc
      obtain ⟨d', rfl, rfl⟩ := Option.map_eq_some_iff.mp h2
      obtain ⟨v, q1, q2⟩ := g.sl i d' h1
      rw [if_pos hc]
      refine ⟨v, q1, q2.frz wsub fun a m z => ?_⟩
      rcases z with z | ⟨j, m'⟩
      · exact g.nw i a m z
      · have := g.dj i j a m (sub m').2
        subst this
        have := (sub m').1
        rw [hc] at this; cases this
    · rename_i hc
      subst h2
      obtain ⟨v, q1, q2⟩ := g.sl i d h1
      rw [if_neg hc]
      exact ⟨v, q1, q2.move (fun a z => .inl (wsub a z)) fun _ _ q _ _ => q⟩
  · split
    · exact List.nodup_nil
    · exact g.nd i
theorem noW_of {W : Addr → Prop} (h : WOk cm W H) : NoW H W := fun a o e m z => by
  obtain ⟨o', h1, h2⟩ := h.1 a z
  rw [e] at h1; cases h1
  rw [m] at h2; cases h2
/-- values behind an expression without effect, settled -/
theorem Good.settle (g : Good cm W0 H σ r fps) (ns : List Nat) {vs : List V} {ds : List D} {fpv : List Addr} (e : Ex H H') (rp : Reps cm (Wp (Wr W0 fps ns) fpv) H' vs ds fpv) (fn : FpN true H fpv) :
    ∃ fps', Good cm (Wp W0 fpv) H' σ (if shrs ds = true then DL.frzN ns r else r) fps' ∧ Reps cm (Wof (Wp W0 fpv) fps') H' vs ds fpv ∧ (∀ a ∈ fpv, ¬ W0 a) ∧ Fram H fps H' fps' fpv := by
  have hm : ∀ a ∈ fpv, MutAt H' a := fun a m => rp.own a m
  have hw : ∀ a ∈ fpv, ¬ W0 a := fun a m z => (g.w0.1 a z).there (fn.2 a m)
  split
  · have g2 := (g.frzN ns).addv e fn.2 hm
    refine ⟨_, g2, rp.move (fun a z => ?_) fun _ _ q _ _ => q, hw, ⟨fun a o h _ t => e.get a o h t, fun i a m => ?_, fun a m => .inr (fn.2 a m), fun _ h => e.back h, e.tb⟩⟩
    · rcases z with (z | z) | ⟨j, m⟩
      · exact .inl (.inl (.inl z))
      · exact .inl (.inr z)
      · dsimp only at m
        split at m
        · cases m
        · rename_i h
          exact .inl (.inl (.inr ⟨j, by simpa using h, m⟩))
    · split at m
      · cases m
      · exact .inl ⟨i, m⟩
  · rename_i hs
    have g2 := g.addv e fn.2 hm
    exact ⟨fps, g2, rp.anyW (noW_of g2.wof) (by simpa using hs), hw, Fram.of_ex e fn.2⟩
theorem Reps.one {W : Addr → Prop} {v : V} {d : D} {fp : List Addr} (h : Rep cm W H v d fp) : Reps cm W H [v] [d] fp := by
  have := Reps.cons h (Reps.nil (cm := cm) (W := W) (H := H))
  rwa [List.append_nil] at this
theorem Reps.the {W : Addr → Prop} {v : V} {d : D} {fp : List Addr} (h : Reps cm W H [v] [d] fp) : Rep cm W H v d fp := by
  cases h with
  | cons h1 h2 =>
    cases h2
    rwa [List.append_nil]
theorem XX.of_x (g : Good cm W0 H σ r fps) {x : Xc} (ns : List Nat) (h : XX cm E W0 H σ fps x (if shrs x.ds = true then DL.frzN ns r else r)) : ∀ r', XPost cm (E σ) (Wr W0 fps ns) H x r' := fun r' H' dx e xr => by
  have w0 : ∀ {fps'}, Good cm (Wp W0 []) H' σ (if shrs x.ds = true then DL.frzN ns r else r) fps' → Good cm W0 H' σ (if shrs x.ds = true then DL.frzN ns r else r) fps' := fun {fps'} g' =>
    ⟨g'.len, ⟨fun a z => g'.w0.1 a (.inl z), g'.w0.2⟩, fun i d q => by
      obtain ⟨v, k1, k2⟩ := g'.sl i d q
      exact ⟨v, k1, k2.move (fun a z => .inl (z.imp .inl id)) fun _ _ q _ _ => q⟩, g'.nd, g'.dj, fun i a m z => g'.nw i a m (.inl z), g'.mu⟩
  rcases xr with ⟨xr, rfl⟩ | ⟨a, vs, rfl, h2, h3, h4⟩
  · obtain ⟨fps', g', _, _, fm⟩ := g.settle ns (vs := []) (ds := []) (fpv := []) e .nil FpN.nil
    cases hx : shrs x.ds with
    | false =>
      rw [hx] at h
      exact h H' fps none (g.ex e) (Fram.of_ex e fun _ m => (nomatch m)) (.inl ⟨xr, rfl⟩)
    | true =>
      rw [hx] at h
      exact h H' _ none ((g.frzN ns).ex e) ⟨fun a o q _ t => e.get a o q t, fun i a m => by
        split at m
        · cases m
        · exact .inl ⟨i, m⟩, fun _ m => (nomatch m), fun _ q => e.back q, e.tb⟩ (.inl ⟨xr, rfl⟩)
  · obtain ⟨fps', g', rp', _, fm⟩ := g.settle ns (fpv := []) e h4.toP FpN.nil
    exact h H' fps' _ (w0 g') fm (.inr ⟨a, vs, rfl, h2, h3, rp'.move (fun a z => .inl (z.imp .inl id)) fun _ _ q _ _ => q⟩)
theorem xe_lift {e : Expr} {f : F} (ns : List Nat) (h : DE X cm E true e f) : XE X cm E e (lift ns f) := by
  obtain ⟨te, h1, h2⟩ := h.ex
  refine ⟨te, h1, fun W0 H σ r fps g Q hp => h2 (Wr W0 fps ns) H σ (view ns r) (g.wr ns) (g.view ns) Q ?_⟩
  unfold lift at hp
  split at hp
  · rename_i d hd
    rw [hd]
    intro v H' fpv e1 rp fn
    obtain ⟨fps', g', rp', hw, fm⟩ := g.settle ns e1 (Reps.one rp) fn
    have hs : shrs [d] = shr d := by simp [shrs]
    rw [hs] at g'
    exact hp v H' fps' fpv g' rp'.the fn.1 hw fm
  · rename_i x r' hd
    rw [hd]
    exact XX.of_x g ns hp r'
  · exact hp.elim
theorem xa_lift {es : List Expr} {f : Env → Out (List D)} (ns : List Nat) (h : DA X cm E true es f) : XA X cm E es (liftA ns f) := by
  obtain ⟨te, h1, h2⟩ := h.ex
  refine ⟨te, h1, fun W0 H σ r fps g Q hp => h2 (Wr W0 fps ns) H σ (view ns r) (g.wr ns) (g.view ns) Q ?_⟩
  unfold liftA at hp
  split at hp
  · rename_i d hd
    rw [hd]
    intro v H' fpv e1 rp fn
    obtain ⟨fps', g', rp', hw, fm⟩ := g.settle ns e1 rp fn
    exact hp v H' fps' fpv g' rp' fn.1 hw fm
  · rename_i x r' hd
    rw [hd]
    exact XX.of_x g ns hp r'
  · exact hp.elim
theorem xt_lift {e : Expr} {f : Env → Out Bool} (ns : List Nat) (h : DT X cm E e f) : XT X cm E e (liftT ns f) := by
  obtain ⟨te, h1, h2⟩ := h.ex
  refine ⟨te, h1, fun W0 H σ r fps g Q hp => h2 (Wr W0 fps ns) H σ (view ns r) (g.wr ns) (g.view ns) Q ?_⟩
  unfold liftT at hp
  split at hp
  · rename_i d hd
    rw [hd]
    exact fun H' e1 => hp H' fps (g.ex e1) (Fram.of_ex e1 fun _ m => (nomatch m))
  · rename_i x r' hd
    rw [hd]
    exact XX.of_x g ns hp r'
  · exact hp.elim
/-- one more value, then the next ones: what was held stays -/
theorem Good.drop {fpv : List Addr} (g : Good cm (Wp W0 fpv) H σ r fps) : Good cm W0 H σ r fps :=
  ⟨g.len, ⟨fun a z => g.w0.1 a (.inl z), g.w0.2⟩, fun i d q => by
    obtain ⟨v, k1, k2⟩ := g.sl i d q
    exact ⟨v, k1, k2.move (fun a z => .inl (z.imp .inl id)) fun _ _ q _ _ => q⟩, g.nd, g.dj, fun i a m z => g.nw i a m (.inl z), g.mu⟩
theorem Rep.over {W0 : Addr → Prop} {H1 H2 : Hp} {f1 f2 : Fps} {v : V} {d : D} {fpv fq : List Addr} (h : Rep cm (Wof (Wp W0 fpv) f1) H1 v d fpv) (nd : ∀ i, ∀ a ∈ f1 i, a ∉ fpv) (fm : Fram H1 f1 H2 f2 fq) : Rep cm (Wof (Wp W0 (fpv ++ fq)) f2) H2 v d fpv := by
  refine h.move (fun a z => ?_) fun a o q t c => fm.keep a o q (fun i m => ?_) t
  · rcases z with (z | z) | ⟨j, z⟩
    · exact .inl (.inl (.inl z))
    · rcases List.mem_append.mp z with z | z
      · exact .inl (.inl (.inr z))
      · rcases fm.oldv a z with ⟨j, q⟩ | q
        · exact .inl (.inr ⟨j, q⟩)
        · exact .inr q
    · rcases fm.old j a z with ⟨j, q⟩ | q
      · exact .inl (.inr ⟨j, q⟩)
      · exact .inr q
  · rcases c with c | c
    · exact c (.inr ⟨i, m⟩)
    · exact nd i a m c
theorem wp_wp (f1 f2 : List Addr) : Wp (Wp W0 f1) f2 = Wp W0 (f1 ++ f2) := by
  funext a
  apply propext
  show ((W0 a ∨ a ∈ f1) ∨ a ∈ f2) ↔ (W0 a ∨ a ∈ f1 ++ f2)
  rw [List.mem_append, or_assoc]
theorem wp_nil : Wp W0 [] = W0 := by
  funext a
  apply propext
  show (W0 a ∨ a ∈ []) ↔ W0 a
  simp
theorem wp_comm (f1 f2 : List Addr) : Wp W0 (f1 ++ f2) = Wp W0 (f2 ++ f1) := by
  funext a
  apply propext
  show (W0 a ∨ a ∈ f1 ++ f2) ↔ (W0 a ∨ a ∈ f2 ++ f1)
  rw [List.mem_append, List.mem_append, or_comm (a := a ∈ f1)]
/-! two in a row: what is said of the second one holds of both -/
theorem two {H1 H2 : Hp} {f1 f2 : Fps} {v1 : V} {d1 : D} {p1 p2 : List Addr} {r1 r2 : Env} {vs : List V} {ds : List D} (g1 : Good cm (Wp W0 p1) H1 σ r1 f1) (k1 : Rep cm (Wof (Wp W0 p1) f1) H1 v1 d1 p1) (n1 : p1.Nodup) (w1 : ∀ a ∈ p1, ¬ W0 a) (m1 : Fram H fps H1 f1 p1)
    (g2 : Good cm (Wp (Wp W0 p1) p2) H2 σ r2 f2) (k2 : Reps cm (Wof (Wp (Wp W0 p1) p2) f2) H2 vs ds p2) (n2 : p2.Nodup) (w2 : ∀ a ∈ p2, ¬ Wp W0 p1 a) (m2 : Fram H1 f1 H2 f2 p2) :
    Good cm (Wp W0 (p1 ++ p2)) H2 σ r2 f2 ∧ Reps cm (Wof (Wp W0 (p1 ++ p2)) f2) H2 (v1 :: vs) (d1 :: ds) (p1 ++ p2) ∧ (p1 ++ p2).Nodup ∧ (∀ a ∈ p1 ++ p2, ¬ W0 a) ∧ Fram H fps H2 f2 (p1 ++ p2) := by
  rw [wp_wp] at g2 k2
  refine ⟨g2, .cons (k1.over (fun i a m z => g1.nw i a m (.inr z)) m2) k2, List.nodup_append.mpr ⟨n1, n2, fun a m c m' z => w2 c m' (.inr (z ▸ m))⟩, fun a m => ?_, (m1.trans m2).addv fun a m => ?_⟩
  · rcases List.mem_append.mp m with m | m
    · exact w1 a m
    · exact fun z => w2 a m (.inl z)
  · rcases List.mem_append.mp m with m | m
    · exact m1.oldv a m
    · exact (m1.trans m2).oldv a m
def xNil : Env → Out (List D × Env) := fun r => .ok ([], r)
def xCons (f : FX) (h : Env → Out (List D × Env)) : Env → Out (List D × Env) := fun r => (f r).bind fun p => (h p.2).bind fun q => .ok (p.1 :: q.1, q.2)
theorem xa_nil : XA X cm E [] xNil := ⟨_, pa_nil, fun W0 H σ r fps g Q hp => hp [] H fps [] (by rw [wp_nil]; exact g) .nil List.nodup_nil (fun _ m => (nomatch m)) (Fram.refl H fps)⟩
theorem XX.later {H1 : Hp} {f1 : Fps} {p1 : List Addr} {x : Xc} {rr : Env} (m1 : Fram H fps H1 f1 p1) (h : XX cm E W0 H σ fps x rr) : XX cm E (Wp W0 p1) H1 σ f1 x rr := fun H' fps' dx g fm xr => h H' fps' dx g.drop ((m1.trans fm).addv fun _ m => (nomatch m)) (xr.weak fun a z => z.imp .inl id)
theorem xa_cons {e : Expr} {es : List Expr} {f : FX} {h : Env → Out (List D × Env)} (h1 : XE X cm E e f) (h2 : XA X cm E es h) (hs : starEach (e :: es) X.env = (false, eval e X.env) :: starEach es X.env := by rfl) : XA X cm E (e :: es) (xCons f h) := by
  obtain ⟨ta, a1, a2⟩ := h1.ex
  obtain ⟨tb, b1, b2⟩ := h2.ex
  refine ⟨_, pa_cons a1 b1 hs, fun W0 H σ r fps g Q hp => a2 W0 H σ r fps g _ (hp.bind.mono (fun p q v H1 f1 p1 g1 k1 n1 w1 m1 => ?_) fun _ _ z => z)⟩
  refine b2 (Wp W0 p1) H1 σ p.2 f1 g1 _ (q.bind.mono (fun p' q' vs H2 f2 p2 g2 k2 n2 w2 m2 => ?_) fun x rr z => XX.later m1 z)
  obtain ⟨z1, z2, z3, z4, z5⟩ := two g1 k1 n1 w1 m1 g2 k2 n2 w2 m2
  exact q' _ H2 f2 _ z1 z2 z3 z4 z5
/-- displays -/
def xLst (h : Env → Out (List D × Env)) : FX := fun r => (h r).bind fun p => if p.1.length ≤ 1000 then .ok (.lst true p.1, p.2) else .bad
def xTup (h : Env → Out (List D × Env)) : FX := fun r => (h r).bind fun p => if p.1.length ≤ 1000 then .ok (.tup p.1, p.2) else .bad
/-- a new node over held values -/
theorem laid {H1 : Hp} {f1 : Fps} {p1 fpv' : List Addr} {r1 : Env} {p : Addr} {o : HO} (g1 : Good cm (Wp W0 p1) H1 σ r1 f1) (m1 : Fram H fps H1 f1 p1) (hp : H1 p = none) (hsub : ∀ a ∈ fpv', a = p ∨ a ∈ p1) (hm : ∀ a ∈ fpv', MutAt (upd H1 p o) a) :
    Good cm (Wp W0 fpv') (upd H1 p o) σ r1 f1 ∧ Fram H fps (upd H1 p o) f1 fpv' := by
  have g2 := g1.drop
  refine ⟨⟨g2.len, ⟨fun a z => ?_, (Ex.new hp).tb g2.w0.2⟩, fun i d q => ?_, g2.nd, g2.dj, fun i a m z => ?_, fun i a m => (g2.mu i a m).ex (Ex.new hp)⟩, ⟨fun a o' q n t => ?_, m1.old, fun a m => ?_, fun a q => m1.back a ((Ex.new hp).back q), fun h => (Ex.new hp).tb (m1.tb h)⟩⟩
  · rcases z with z | z
    · exact (g2.w0.1 a z).ex (Ex.new hp)
    · exact hm a z
  · obtain ⟨v, k1, k2⟩ := g1.sl i d q
    refine ⟨v, k1, k2.move (fun a z => ?_) fun a o' q t _ => (Ex.new hp).get a o' q t⟩
    rcases z with (z | z) | z
    · exact .inl (.inl (.inl z))
    · rcases hsub a z with rfl | z
      · exact .inr hp
      · exact .inl (.inl (.inr z))
    · exact .inl (.inr z)
  · rcases z with z | z
    · exact g2.nw i a m z
    · rcases hsub a z with rfl | z
      · exact (g2.mu i a m).there hp
      · exact g1.nw i a m (.inr z)
  · rw [upd_ne (ne_of_none (m1.keep a o' q n t) hp)]
    exact m1.keep a o' q n t
  · rcases hsub a m with rfl | m
    · exact .inr (m1.back _ hp)
    · exact m1.oldv a m
theorem xe_lst {es : List Expr} {h : Env → Out (List D × Env)} (h1 : XA X cm E es h) : XE X cm E (.List es pos) (xLst h) := by
  obtain ⟨ta, a1, a2⟩ := h1.ex
  refine ⟨_, pe_lst a1, fun W0 H σ r fps g Q hp => a2 W0 H σ r fps g _ (hp.bind.mono (fun p q vs H1 f1 p1 g1 k1 n1 w1 m1 => ?_) fun _ _ z => z)⟩
  split at q
  · rename_i hl
    refine ⟨by rw [k1.len]; exact small1000' hl, fun a ha => ?_⟩
    obtain ⟨g2, m2⟩ := laid (fpv' := a :: p1) (o := .lst vs) g1 m1 ha (fun c m => List.mem_cons.mp m) fun c m => by
      rcases List.mem_cons.mp m with rfl | m
      · exact ⟨_, upd_same, rfl⟩
      · exact (k1.own c m).ex (Ex.new ha)
    refine q (.ref a) _ f1 (a :: p1) g2 (.lstO upd_same (k1.move (fun c z => ?_) fun c o q t _ => (Ex.new ha).get c o q t)) (List.nodup_cons.mpr ⟨fun m => (k1.own a m).there ha, n1⟩) (fun c m => ?_) m2
    · rcases z with (z | z) | z
      · exact .inl (.inl (.inl z))
      · rcases List.mem_cons.mp z with rfl | z
        · exact .inr ha
        · exact .inl (.inl (.inr z))
      · exact .inl (.inr z)
    · rcases List.mem_cons.mp m with rfl | m
      · exact fun z => (g1.w0.1 _ (.inl z)).there ha
      · exact w1 c m
  · exact q.elim
theorem xe_tup {es : List Expr} {h : Env → Out (List D × Env)} {x1} (h1 : XA X cm E es h) : XE X cm E (.Tuple es x1 pos) (xTup h) := by
  obtain ⟨ta, a1, a2⟩ := h1.ex
  refine ⟨_, pe_tup a1, fun W0 H σ r fps g Q hp => a2 W0 H σ r fps g _ (hp.bind.mono (fun p q vs H1 f1 p1 g1 k1 n1 w1 m1 => ?_) fun _ _ z => z)⟩
  split at q
  · rename_i hl
    refine ⟨by rw [k1.len]; exact small1000' hl, fun a ha => ?_⟩
    obtain ⟨g2, m2⟩ := laid (fpv' := p1) (o := .tup vs) g1 m1 ha (fun c m => .inr m) fun c m => (k1.own c m).ex (Ex.new ha)
    refine q (.ref a) _ f1 p1 g2 (.tup upd_same (fun z => ?_) (k1.ex (Ex.new ha))) n1 w1 m2
    rcases z with (z | z) | ⟨j, z⟩
    · exact (g1.w0.1 _ (.inl z)).there ha
    · exact (k1.own _ z).there ha
    · exact (g1.mu j _ z).there ha
  · exact q.elim
/-! operators by values over effects: operands become shared -/
def x2 (gg : D → D → Out D) (f h : FX) : FX := fun r => (f r).bind fun p => (h p.2).bind fun q => (gg (frz p.1) (frz q.1)).bind fun d => .ok (d, q.2)
def x1 (gg : D → Out D) (f : FX) : FX := fun r => (f r).bind fun p => (gg (frz p.1)).bind fun d => .ok (d, p.2)
def xA (gg : List D → Out D) (h : Env → Out (List D × Env)) : FX := fun r => (h r).bind fun p => (gg (frzs p.1)).bind fun d => .ok (d, p.2)
/-- values held, made shared, then an operation that only lays new things -/
theorem opened {H1 : Hp} {f1 : Fps} {p1 : List Addr} {r1 : Env} {Q : VK} {o : Out D} (g1 : Good cm (Wp W0 p1) H1 σ r1 f1) (m1 : Fram H fps H1 f1 p1) (q : Post (o.bind fun d => .ok (d, r1)) (QX cm W0 H σ fps Q) (XX cm E W0 H σ fps)) (hn : ∀ x rr, o ≠ .exn x rr) :
    Post o (QP cm (Wof W0 f1) true H1 Q) noX := by
  refine Post.noX ((Post.bind q).mono (fun d z v H2 fpv e2 rp fn => ?_) fun x rr z => z) hn
  have hm : ∀ a ∈ fpv, MutAt H2 a := fun a m => rp.own a m
  refine z v H2 f1 fpv (g1.drop.addv e2 fn.2 hm) (rp.move (fun a z => .inl ?_) fun _ _ q _ _ => q) fn.1 (fun a m z => (g1.w0.1 a (.inl z)).there (fn.2 a m)) ((m1.trans (Fram.of_ex e2 fn.2)).addv fun a m => .inr (m1.back a (fn.2 a m)))
  rcases z with (z | z) | z
  · exact .inl (.inl z)
  · exact .inr z
  · exact .inl (.inr z)
theorem Rep.open {H1 : Hp} {f1 : Fps} {p1 p2 : List Addr} {v : V} {d : D} {r1 : Env} (g1 : Good cm (Wp W0 p1) H1 σ r1 f1) (w1 : ∀ a ∈ p1, ¬ W0 a) (k : Rep cm (Wof (Wp W0 p1) f1) H1 v d p2) (hs : ∀ a ∈ p2, a ∈ p1) : Rep cm (Wof W0 f1) H1 v (DL.frz d) [] := k.frz (fun a z => z.imp .inl id) fun a m z => by
  rcases z with z | ⟨j, z⟩
  · exact w1 a (hs a m) z
  · exact g1.nw j a z (.inr (hs a m))
theorem Reps.open {H1 : Hp} {f1 : Fps} {p1 p2 : List Addr} {v : List V} {d : List D} {r1 : Env} (g1 : Good cm (Wp W0 p1) H1 σ r1 f1) (w1 : ∀ a ∈ p1, ¬ W0 a) (k : Reps cm (Wof (Wp W0 p1) f1) H1 v d p2) (hs : ∀ a ∈ p2, a ∈ p1) : Reps cm (Wof W0 f1) H1 v (DL.frzs d) [] := k.frz (fun a z => z.imp .inl id) fun a m z => by
  rcases z with z | ⟨j, z⟩
  · exact w1 a (hs a m) z
  · exact g1.nw j a z (.inr (hs a m))
theorem xcon2 {rr : R2} {gg : D → D → Out D} {ta tb : TE} {f h : FX} (ho : Op2' cm true rr gg) (hn : NoEx gg) (ha : ∀ W0 H σ r fps, Good cm W0 H σ r fps → ∀ Q, Post (f r) (QX cm W0 H σ fps Q) (XX cm E W0 H σ fps) → ta σ H Q) (hb : ∀ W0 H σ r fps, Good cm W0 H σ r fps → ∀ Q, Post (h r) (QX cm W0 H σ fps Q) (XX cm E W0 H σ fps) → tb σ H Q) :
    ∀ W0 H σ r fps, Good cm W0 H σ r fps → ∀ Q, Post (x2 gg f h r) (QX cm W0 H σ fps Q) (XX cm E W0 H σ fps) → tOp rr ta tb σ H Q := fun W0 H σ r fps g Q hp =>
  ha W0 H σ r fps g _ (hp.bind.mono (fun p q v H1 f1 p1 g1 k1 n1 w1 m1 => hb (Wp W0 p1) H1 σ p.2 f1 g1 _ (q.bind.mono (fun p' q' u H2 f2 p2 g2 k2 n2 w2 m2 => by
    obtain ⟨z1, z2, z3, z4, z5⟩ := two g1 k1 n1 w1 m1 g2 (Reps.one k2) n2 w2 m2
    have o2 := z2.open z1 z4 fun _ m => m
    obtain ⟨a', e1, e2⟩ := o2.at rfl (i := 0) (d := frz p.1) rfl
    obtain ⟨b', e3, e4⟩ := o2.at rfl (i := 1) (d := frz p'.1) rfl
    cases e1; cases e3
    exact ho (Wof W0 f2) H2 v u _ _ z1.drop.wof e2 e4 Q (opened z1 z5 q' (hn _ _))) fun x rr z => XX.later m1 z)) fun _ _ z => z)
variable {a c : Expr} {fa fb : FX}
theorem xe_op {op : Operator} {rr : R2} {gg : D → D → Out D} (hr : OpR X (binaryOp op) rr) (ho : Op2' cm true rr gg) (hn : NoEx gg) (ha : XE X cm E a fa) (hb : XE X cm E c fb) : XE X cm E (.BinOp a op c pos) (x2 gg fa fb) := by
  obtain ⟨ta, h1, h2⟩ := ha.ex
  obtain ⟨tb, h3, h4⟩ := hb.ex
  exact ⟨_, pe_op hr h1 h3, xcon2 ho hn h2 h4⟩
theorem xe_cmp {op : CmpOp} {rr : R2} {gg : D → D → Out D} (hr : OpR X (compareOp op) rr) (ho : Op2' cm true rr gg) (hn : NoEx gg) (hm : behindInMarks op c = false) (ha : XE X cm E a fa) (hb : XE X cm E c fb) : XE X cm E (.Compare a [op] [c] pos) (x2 gg fa fb) := by
  obtain ⟨ta, h1, h2⟩ := ha.ex
  obtain ⟨tb, h3, h4⟩ := hb.ex
  exact ⟨_, pe_cmpR hr h1 h3 hm, xcon2 ho hn h2 h4⟩
theorem xe_ix {rr : R2} {gg : D → D → Out D} (hr : IxR X rr) (ho : Op2' cm true rr gg) (hn : NoEx gg) (hs : PlainIx c) (ha : XE X cm E a fa) (hb : XE X cm E c fb) : XE X cm E (.Subscript a c pos) (x2 gg fa fb) := by
  obtain ⟨ta, h1, h2⟩ := ha.ex
  obtain ⟨tb, h3, h4⟩ := hb.ex
  exact ⟨_, pe_ix hr h1 h3 hs, xcon2 ho hn h2 h4⟩
end
end DL

namespace DL
variable [Tbs]
open PySem L2

inductive SO where
  | nx (r : Env) | rt (d : D) (r : Env) | bk (r : Env) | ct (r : Env) | exn (x : Xc) (r : Env) | bad
abbrev FS := Env → SO
abbrev k0 : Nat → Bool := fun _ => false
abbrev k1 : Nat → Bool := fun j => j == 0
abbrev kx (ts : List Nat) : Nat → Bool := fun j => !ts.contains j
def Keep (ks : Nat → Bool) (σ σ' : St) : Prop := σ'.length = σ.length ∧ ∀ (j : Nat), ks j = true → σ'[j]? = σ[j]?
theorem Keep.refl (ks : Nat → Bool) (σ : St) : Keep ks σ σ := ⟨rfl, fun _ _ => rfl⟩
theorem Keep.trans {ks : Nat → Bool} {σ σ1 σ2 : St} (a : Keep ks σ σ1) (b : Keep ks σ1 σ2) : Keep ks σ σ2 := ⟨b.1.trans a.1, fun j h => (b.2 j h).trans (a.2 j h)⟩
def SPost (cm : Cm) (E : XS) (W0 : Addr → Prop) (H : Hp) (σ : St) (fps : Fps) (ks : Nat → Bool) (D : Ends) : SO → Prop
  | .nx r' => ∀ σ' H' fps', Good cm W0 H' σ' r' fps' → Fram H fps H' fps' [] → Keep ks σ σ' → D.nx σ' H'
  | .bk r' => ∀ σ' H' fps', Good cm W0 H' σ' r' fps' → Fram H fps H' fps' [] → Keep ks σ σ' → D.bk σ' H'
  | .ct r' => ∀ σ' H' fps', Good cm W0 H' σ' r' fps' → Fram H fps H' fps' [] → Keep ks σ σ' → D.ct σ' H'
  | .rt d r' => ∀ v σ' H' fps' fpv, Good cm (Wp W0 fpv) H' σ' r' fps' → Rep cm (Wof (Wp W0 fpv) fps') H' v d fpv → fpv.Nodup → (∀ a ∈ fpv, ¬ W0 a) → Fram H fps H' fps' fpv → Keep ks σ σ' → D.rt v H'
  | .exn x r' => ∀ σ' H' fps' dx, Good cm W0 H' σ' r' fps' → Fram H fps H' fps' [] → Keep ks σ σ' → XRep cm (Wof W0 fps') H' x dx → E σ' (.ref (cm.cl x.cls)) dx H'
  | .bad => False
def SCon (cm : Cm) (E : XS) (ks : Nat → Bool) (ts : TS) (g : FS) : Prop := ∀ W0 H σ r fps, Good cm W0 H σ r fps → ∀ D, SPost cm E W0 H σ fps ks D (g r) → ts D σ H
structure DS (X : Cx) (cm : Cm) (E : XS) (ks : Nat → Bool) (st : Stmt) (g : FS) : Prop where
  ex : ∃ ts, PS X st ts ∧ SCon cm E ks ts g
structure DSs (X : Cx) (cm : Cm) (E : XS) (ks : Nat → Bool) (st : List Stmt) (g : FS) : Prop where
  ex : ∃ ts, PSs X st ts ∧ SCon cm E ks ts g
/-- what was wanted ahead is wanted behind a first part -/
theorem SPost.later {cm : Cm} {E : XS} {W0 : Addr → Prop} {H H1 : Hp} {σ σ1 : St} {fps f1 : Fps} {ks : Nat → Bool} {D : Ends} {o : SO} (fm : Fram H fps H1 f1 []) (k : Keep ks σ σ1) (h : SPost cm E W0 H σ fps ks D o) : SPost cm E W0 H1 σ1 f1 ks D o := by
  cases o with
  | nx r => exact fun σ' H' fps' g f2 k2 => h σ' H' fps' g (fm.trans f2) (k.trans k2)
  | bk r => exact fun σ' H' fps' g f2 k2 => h σ' H' fps' g (fm.trans f2) (k.trans k2)
  | ct r => exact fun σ' H' fps' g f2 k2 => h σ' H' fps' g (fm.trans f2) (k.trans k2)
  | rt d r => exact fun v σ' H' fps' fpv g rp nd nw f2 k2 => h v σ' H' fps' fpv g rp nd nw (fm.trans f2) (k.trans k2)
  | exn x r => exact fun σ' H' fps' dx g f2 k2 xr => h σ' H' fps' dx g (fm.trans f2) (k.trans k2) xr
  | bad => exact h
theorem SPost.ends {cm : Cm} {E : XS} {W0 : Addr → Prop} {H : Hp} {σ : St} {fps : Fps} {ks : Nat → Bool} {D D' : Ends} {o : SO} (h : SPost cm E W0 H σ fps ks D o) (h1 : ∀ σ H, D.nx σ H → D'.nx σ H) (h2 : ∀ σ H, D.bk σ H → D'.bk σ H) (h3 : ∀ σ H, D.ct σ H → D'.ct σ H) (h4 : ∀ v H, D.rt v H → D'.rt v H) : SPost cm E W0 H σ fps ks D' o := by
  cases o with
  | nx r => exact fun σ' H' fps' g f2 k2 => h1 _ _ (h σ' H' fps' g f2 k2)
  | bk r => exact fun σ' H' fps' g f2 k2 => h2 _ _ (h σ' H' fps' g f2 k2)
  | ct r => exact fun σ' H' fps' g f2 k2 => h3 _ _ (h σ' H' fps' g f2 k2)
  | rt d r => exact fun v σ' H' fps' fpv g rp nd nw f2 k2 => h4 _ _ (h v σ' H' fps' fpv g rp nd nw f2 k2)
  | exn x r => exact h
  | bad => exact h

/-! combinators -/
def sNext : FS := fun r => .nx r
def sSeq (f g : FS) : FS := fun r => match f r with
  | .nx r1 => g r1
  | o => o
def sBreak : FS := fun r => .bk r
def sCont : FS := fun r => .ct r
def sRet (f : FX) : FS := fun r => match f r with
  | .ok p => .rt p.1 p.2
  | .exn x r' => .exn x r'
  | .bad => .bad
def sRetN : FS := fun r => .rt .non r
def sDrop (f : FX) : FS := fun r => match f r with
  | .ok p => .nx p.2
  | .exn x r' => .exn x r'
  | .bad => .bad
def sSet (i : Nat) (f : FX) : FS := fun r => match f r with
  | .ok p => if i < p.2.length then .nx (p.2.set i (some p.1)) else .bad
  | .exn x r' => .exn x r'
  | .bad => .bad
def sIf (t : Env → Out (Bool × Env)) (f g : FS) : FS := fun r => match t r with
  | .ok p => if p.1 = true then f p.2 else g p.2
  | .exn x r' => .exn x r'
  | .bad => .bad
def forS (tg : D → Env → Out Env) (body : FS) : List D → FS
  | [], r => .nx r
  | d :: ds, r => match tg d r with
    | .ok r1 => match body r1 with
      | .nx r2 => forS tg body ds r2
      | .ct r2 => forS tg body ds r2
      | .bk r2 => .nx r2
      | o => o
    | _ => .bad
def sFor (it : Env → Out (List D × Env)) (tg : D → Env → Out Env) (body : FS) : FS := fun r => match it r with
  | .ok p => forS tg body p.1 p.2
  | .exn x r' => .exn x r'
  | .bad => .bad
def whileS (t : Env → Out (Bool × Env)) (body : FS) : Nat → FS
  | 0, _ => .bad
  | n + 1, r => match t r with
    | .ok p => if p.1 = true then (match body p.2 with
      | .nx r2 => whileS t body n r2
      | .ct r2 => whileS t body n r2
      | .bk r2 => .nx r2
      | o => o) else .nx p.2
    | .exn x r' => .exn x r'
    | .bad => .bad

section
variable {X : Cx} {cm : Cm} {E : XS} {ks : Nat → Bool} {pos : Pos} {st : Stmt} {sts : List Stmt} {e tg : Expr} {f : FX} {g h : FS}
theorem ds_nil : DSs X cm E ks [] sNext := ⟨_, pss_nil, fun W0 H σ r fps g D hp => hp σ H fps g (Fram.refl H fps) (Keep.refl ks σ)⟩
theorem ds_cons (h1 : DS X cm E ks st g) (h2 : DSs X cm E ks sts h) : DSs X cm E ks (st :: sts) (sSeq g h) := by
  obtain ⟨t, a1, a2⟩ := h1.ex
  obtain ⟨u, b1, b2⟩ := h2.ex
  refine ⟨_, pss_cons a1 b1, fun W0 H σ r fps gd D hp => a2 W0 H σ r fps gd _ ?_⟩
  unfold sSeq at hp
  cases hg : g r with
  | nx r1 =>
    rw [hg] at hp
    exact fun σ' H' fps' g' fm k => b2 W0 H' σ' r1 fps' g' D (SPost.later fm k hp)
  | rt d r' => rw [hg] at hp; exact hp
  | bk r' => rw [hg] at hp; exact hp
  | ct r' => rw [hg] at hp; exact hp
  | exn x r' => rw [hg] at hp; exact hp
  | bad => rw [hg] at hp; exact hp.elim
theorem ds_one (h1 : DS X cm E ks st g) : DSs X cm E ks [st] g := by
  obtain ⟨t, a1, a2⟩ := h1.ex
  exact ⟨_, pss_one a1, a2⟩
theorem ds_pass : DS X cm E ks (.Pass pos) sNext := ⟨_, ps_pass, fun W0 H σ r fps g D hp => hp σ H fps g (Fram.refl H fps) (Keep.refl ks σ)⟩
theorem ds_break : DS X cm E ks (.Break pos) sBreak := ⟨_, ps_break, fun W0 H σ r fps g D hp => hp σ H fps g (Fram.refl H fps) (Keep.refl ks σ)⟩
theorem ds_cont : DS X cm E ks (.Continue pos) sCont := ⟨_, ps_continue, fun W0 H σ r fps g D hp => hp σ H fps g (Fram.refl H fps) (Keep.refl ks σ)⟩
theorem ds_never : DS X cm E ks st (fun _ => .bad) := ⟨_, ps_never, fun W0 H σ r fps g D hp => hp⟩
theorem ds_ret (h1 : XE X cm E e f) : DS X cm E ks (.Return (some e) pos) (sRet f) := by
  obtain ⟨t, a1, a2⟩ := h1.ex
  refine ⟨_, ps_ret a1, fun W0 H σ r fps g D hp => a2 W0 H σ r fps g _ ?_⟩
  unfold sRet at hp
  split at hp
  · rename_i p hr
    rw [hr]
    exact fun v H' fps' fpv g' rp nd nw fm => hp v σ H' fps' fpv g' rp nd nw fm (Keep.refl ks σ)
  · rename_i x r' hr
    rw [hr]
    exact fun H' fps' dx g' fm xr => hp σ H' fps' dx g' fm (Keep.refl ks σ) xr
  · exact hp.elim
theorem ds_retN : DS X cm E ks (.Return none pos) sRetN := ⟨_, ps_retN, fun W0 H σ r fps g D hp => hp .non σ H fps [] (by rw [wp_nil]; exact g) .non List.nodup_nil (fun _ m => (nomatch m)) (Fram.refl H fps) (Keep.refl ks σ)⟩
theorem ds_expr (h1 : XE X cm E e f) (hs : swapsWith e none pos.line X.env = pure false := by rfl) : DS X cm E ks (.Expr e pos) (sDrop f) := by
  obtain ⟨t, a1, a2⟩ := h1.ex
  refine ⟨_, ps_expr a1 hs, fun W0 H σ r fps g D hp => a2 W0 H σ r fps g _ ?_⟩
  unfold sDrop at hp
  split at hp
  · rename_i p hr
    rw [hr]
    exact fun v H' fps' fpv g' rp nd nw fm => hp σ H' fps' g'.drop (fm.addv fun _ m => (nomatch m)) (Keep.refl ks σ)
  · rename_i x r' hr
    rw [hr]
    exact fun H' fps' dx g' fm xr => hp σ H' fps' dx g' fm (Keep.refl ks σ) xr
  · exact hp.elim
/-- a slot takes a held value -/
theorem Good.put {W0 : Addr → Prop} {H : Hp} {σ : St} {r : Env} {fps : Fps} {v : V} {d : D} {fpv : List Addr} (g : Good cm (Wp W0 fpv) H σ r fps) (rp : Rep cm (Wof (Wp W0 fpv) fps) H v d fpv) (nd : fpv.Nodup) (nw : ∀ a ∈ fpv, ¬ W0 a) (i : Nat) :
    Good cm W0 H (σ.set i (some v)) (r.set i (some d)) (fun j => if j = i then fpv else fps j) := by
  have sub : ∀ {j a}, a ∈ (if j = i then fpv else fps j) → (j = i ∧ a ∈ fpv) ∨ (j ≠ i ∧ a ∈ fps j) := fun {j a} m => by
    split at m
    · exact .inl ⟨by assumption, m⟩
    · exact .inr ⟨by assumption, m⟩
  have wsub : ∀ a, Wof W0 (fun j => if j = i then fpv else fps j) a → Wof (Wp W0 fpv) fps a := fun a z => by
    rcases z with z | ⟨j, m⟩
    · exact .inl (.inl z)
    · rcases sub m with ⟨_, m⟩ | ⟨_, m⟩
      · exact .inl (.inr m)
      · exact .inr ⟨j, m⟩
  refine ⟨by rw [List.length_set, List.length_set, g.len], ⟨fun a z => g.w0.1 a (.inl z), g.w0.2⟩, fun j d' q => ?_, fun j => ?_, fun j k a m m' => ?_, fun j a m => ?_, fun j a m => ?_⟩
  · rw [List.getElem?_set] at q ⊢
    by_cases e : i = j
    · subst e
      rw [if_pos rfl] at q ⊢
      split at q
      · rename_i hl
        cases q
        rw [if_pos (by rw [g.len]; exact hl), if_pos rfl]
        exact ⟨v, rfl, rp.move (fun a z => .inl (wsub a z)) fun _ _ q _ _ => q⟩
      · cases q
    · rw [if_neg e] at q ⊢
      rw [if_neg (Ne.symm e)]
      obtain ⟨u, k1, k2⟩ := g.sl j d' q
      exact ⟨u, k1, k2.move (fun a z => .inl (wsub a z)) fun _ _ q _ _ => q⟩
  · split
    · exact nd
    · exact g.nd j
  · rcases sub m with ⟨e, m⟩ | ⟨e, m⟩ <;> rcases sub m' with ⟨e', m'⟩ | ⟨e', m'⟩
    · rw [e, e']
    · exact absurd (Or.inr m) (g.nw k a m')
    · exact absurd (Or.inr m') (g.nw j a m)
    · exact g.dj j k a m m'
  · rcases sub m with ⟨e, m⟩ | ⟨e, m⟩
    · exact nw a m
    · exact fun z => g.nw j a m (.inl z)
  · rcases sub m with ⟨e, m⟩ | ⟨e, m⟩
    · exact g.w0.1 a (.inr m)
    · exact g.mu j a m
theorem Fram.put {H H' : Hp} {fps fps' : Fps} {fpv : List Addr} {i : Nat} (fm : Fram H fps H' fps' fpv) : Fram H fps H' (fun j => if j = i then fpv else fps' j) [] :=
  ⟨@Fram.keep _ _ _ _ _ _ fm, fun j a m => by
    split at m
    · exact fm.oldv a m
    · exact fm.old j a m, fun _ m => (nomatch m), fm.back, fm.tb⟩
theorem Keep.set {ks : Nat → Bool} {σ : St} {i : Nat} {x : Option V} (h : ks i = false) : Keep ks σ (σ.set i x) := ⟨by rw [List.length_set], fun j m => by
  rw [List.getElem?_set, if_neg]
  intro z
  subst z
  rw [h] at m; cases m⟩
theorem setCon {te : TE} {i : Nat} (hk : ks i = false) (a2 : ∀ W0 H σ r fps, Good cm W0 H σ r fps → ∀ Q, Post (f r) (QX cm W0 H σ fps Q) (XX cm E W0 H σ fps) → te σ H Q) : SCon cm E ks (tAsg te (gName i)) (sSet i f) := fun W0 H σ r fps g D hp => by
  refine a2 W0 H σ r fps g _ ?_
  unfold sSet at hp
  split at hp
  · rename_i p hr
    rw [hr]
    split at hp
    · exact fun v H' fps' fpv g' rp nd nw fm => hp _ H' _ (g'.put rp nd nw i) fm.put (Keep.set hk)
    · exact hp.elim
  · rename_i x r' hr
    rw [hr]
    exact fun H' fps' dx g' fm xr => hp σ H' fps' dx g' fm (Keep.refl ks σ) xr
  · exact hp.elim
theorem ds_set (i : Nat) {x : Str} {pos' : Pos} (hN : X.N.Nodup) (h1 : XE X cm E e f) (hk : ks i = false := by rfl) (hi : X.N[i]? = some x := by rfl) (hx : Loc X.env.scope x := by first | exact Or.inl rfl | exact Or.inr rfl) (hs : swapsWith e (some (.Name x pos')) pos.line X.env = pure false := by rfl) (hf : X.fn x = true ∨ X.env.scope.names.lookup x = some .local := by first | exact .inl rfl | exact .inr rfl) :
    DS X cm E ks (.Assign [.Name x pos'] e pos) (sSet i f) := by
  obtain ⟨t, a1, a2⟩ := h1.ex
  exact ⟨_, ps_set hN hi hx a1 hs hf, setCon hk a2⟩
theorem ds_if {c : Expr} {a b : List Stmt} {t : Env → Out (Bool × Env)} (hc : XT X cm E c t) (ha : DSs X cm E ks a g) (hb : DSs X cm E ks b h) : DS X cm E ks (.If c a b pos) (sIf t g h) := by
  obtain ⟨tt, t1, t2⟩ := hc.ex
  obtain ⟨ta, a1, a2⟩ := ha.ex
  obtain ⟨tb, b1, b2⟩ := hb.ex
  refine ⟨_, ps_if t1 a1 b1, fun W0 H σ r fps gd D hp => t2 W0 H σ r fps gd _ ?_⟩
  unfold sIf at hp
  split at hp
  · rename_i p hr
    rw [hr]
    intro H' fps' g' fm
    obtain ⟨b, r'⟩ := p
    cases b with
    | true => exact a2 W0 H' σ r' fps' g' D (SPost.later fm (Keep.refl ks σ) hp)
    | false => exact b2 W0 H' σ r' fps' g' D (SPost.later fm (Keep.refl ks σ) hp)
  · rename_i x r' hr
    rw [hr]
    exact fun H' fps' dx g' fm xr => hp σ H' fps' dx g' fm (Keep.refl ks σ) xr
  · exact hp.elim
/-! targets in a frame with own things -/
structure XG (X : Cx) (cm : Cm) (ks : Nat → Bool) (tg : Expr) (g : D → Env → Out Env) : Prop where
  ex : ∃ t, PG X tg t ∧ ∀ W0 H σ r fps v d, Good cm W0 H σ r fps → Rep cm (Wof W0 fps) H v d [] → ∀ Q : St → Hp → Prop, Post (g d r) (fun r' => ∀ σ' fps', Good cm W0 H σ' r' fps' → (∀ j a, a ∈ fps' j → a ∈ fps j) → Keep ks σ σ' → Q σ' H) noX → t v σ H Q
structure XGs (X : Cx) (cm : Cm) (ks : Nat → Bool) (tgs : List Expr) (g : List D → Env → Out Env) : Prop where
  ex : ∃ t, PGs X tgs t ∧ ∀ W0 H σ r fps vs ds, Good cm W0 H σ r fps → Reps cm (Wof W0 fps) H vs ds [] → ∀ Q : St → Hp → Prop, Post (g ds r) (fun r' => ∀ σ' fps', Good cm W0 H σ' r' fps' → (∀ j a, a ∈ fps' j → a ∈ fps j) → Keep ks σ σ' → Q σ' H) noX → t vs σ H Q
theorem xg_name (i : Nat) {x : Str} (hN : X.N.Nodup) (hk : ks i = false := by rfl) (hi : X.N[i]? = some x := by rfl) (hx : Loc X.env.scope x := by first | exact Or.inl rfl | exact Or.inr rfl) (hf : X.fn x = true ∨ X.env.scope.names.lookup x = some .local := by first | exact .inl rfl | exact .inr rfl) : XG X cm ks (.Name x pos) (sN i) := by
  refine ⟨_, pg_name hN hi hx hf, fun W0 H σ r fps v d gd rp Q hp => ?_⟩
  unfold sN at hp
  split at hp
  · refine hp _ _ (Good.put (fpv := []) (by rw [wp_nil]; exact gd) (by rw [wp_nil]; exact rp) List.nodup_nil (fun _ m => (nomatch m)) i) (fun j a m => ?_) (Keep.set hk)
    split at m
    · cases m
    · exact m
  · exact hp.elim
theorem xgs_nil : XGs X cm ks [] sNil := by
  refine ⟨_, pgs_nil, fun W0 H σ r fps vs ds gd rp Q hp => ?_⟩
  unfold sNil at hp
  split at hp
  · cases rp
    exact ⟨rfl, hp σ fps gd (fun _ _ m => m) (Keep.refl ks σ)⟩
  · exact hp.elim
theorem xgs_cons {e : Expr} {es : List Expr} {g : D → Env → Out Env} {h : List D → Env → Out Env} (h1 : XG X cm ks e g) (h2 : XGs X cm ks es h) (hs : (assignEach (e :: es) X.env).map (·.2) = assign e X.env :: (assignEach es X.env).map (·.2) := by rfl) : XGs X cm ks (e :: es) (sCons g h) := by
  obtain ⟨t, a1, a2⟩ := h1.ex
  obtain ⟨u, b1, b2⟩ := h2.ex
  refine ⟨_, pgs_cons a1 b1 hs, fun W0 H σ r fps vs ds gd rp Q hp => ?_⟩
  unfold sCons at hp
  split at hp
  · generalize hf : ([] : List Addr) = fp at rp
    cases rp with
    | cons k1 k2 =>
      obtain ⟨rfl, rfl⟩ := app_nil hf
      refine ⟨_, _, rfl, a2 W0 H σ r fps _ _ gd k1 _ (hp.bind.mono (fun r1 q σ1 f1 g1 s1 w1 => ?_) fun _ _ z => z)⟩
      exact b2 W0 H σ1 r1 f1 _ _ g1 (k2.move (fun a z => .inl (z.imp id fun ⟨j, m⟩ => ⟨j, s1 j a m⟩)) fun _ _ q _ _ => q) _ (q.mono (fun r2 q2 σ2 f2 g2 s2 w2 => q2 σ2 f2 g2 (fun j a m => s1 j a (s2 j a m)) (w1.trans w2)) fun _ _ z => z)
  · exact hp.elim
theorem xg_tup {es : List Expr} {k : Nat} {g : List D → Env → Out Env} {n : Nat} (hc : X.calm = true) (h : XGs X cm ks es g) (hn : (assignEach es X.env).length = n := by rfl) (hst : (assignEach es X.env).findIdx? (·.1) = none := by rfl) : XG X cm ks (.Tuple es k pos) (sT n g) := by
  obtain ⟨t, a1, a2⟩ := h.ex
  refine ⟨_, pg_tup hc a1 hn hst, fun W0 H σ r fps v d gd rp Q hp => ?_⟩
  unfold sT at hp
  split at hp
  · split at hp
    · rename_i hl
      generalize hf : ([] : List Addr) = fp at rp
      cases rp with
      | tup h n rs =>
        subst hf
        exact ⟨_, _, rfl, SqT.of h, by rw [rs.len]; exact hl, a2 W0 H σ r fps _ _ gd rs Q hp⟩
    · exact hp.elim
  · exact hp.elim
/-- a, b = e (e a tuple): what is in it becomes shared -/
def sAsg (f : FX) (g : D → Env → Out Env) : FS := fun r => match f r with
  | .ok p => match g (frz p.1) p.2 with
    | .ok r' => .nx r'
    | _ => .bad
  | .exn x r' => .exn x r'
  | .bad => .bad
theorem asgCon {te : TE} {tt : TG} {gg : D → Env → Out Env} (a2 : ∀ W0 H σ r fps, Good cm W0 H σ r fps → ∀ Q, Post (f r) (QX cm W0 H σ fps Q) (XX cm E W0 H σ fps) → te σ H Q)
    (b2 : ∀ W0 H σ r fps v d, Good cm W0 H σ r fps → Rep cm (Wof W0 fps) H v d [] → ∀ Q : St → Hp → Prop, Post (gg d r) (fun r' => ∀ σ' fps', Good cm W0 H σ' r' fps' → (∀ j a, a ∈ fps' j → a ∈ fps j) → Keep ks σ σ' → Q σ' H) noX → tt v σ H Q) : SCon cm E ks (tAsg te tt) (sAsg f gg) := fun W0 H σ r fps g D hp => by
  refine a2 W0 H σ r fps g _ ?_
  unfold sAsg at hp
  split at hp
  · rename_i p hr
    rw [hr]
    intro v H' fps' fpv g' rp nd nw fm
    split at hp
    · rename_i r' hr'
      refine b2 W0 H' σ p.2 fps' v (frz p.1) g'.drop (rp.open g' nw fun _ m => m) _ ?_
      rw [hr']
      exact fun σ' f' g'' s k => hp σ' H' f' g'' ⟨@Fram.keep _ _ _ _ _ _ fm, fun j a m => fm.old j a (s j a m), fun _ m => (nomatch m), fm.back, fm.tb⟩ k
    · exact hp.elim
  · rename_i x r' hr
    rw [hr]
    exact fun H' fps' dx g' fm xr => hp σ H' fps' dx g' fm (Keep.refl ks σ) xr
  · exact hp.elim
theorem ds_asg {gg : D → Env → Out Env} (h1 : XE X cm E e f) (h2 : XG X cm ks tg gg) (hs : swapsWithSole [tg] e pos.line X.env = pure false := by rfl) (hw : swappedStores [tg] e X.env = pure none := by rfl) (hq : (assignEach [tg] X.env).map (·.2) = [assign tg X.env] := by rfl) : DS X cm E ks (.Assign [tg] e pos) (sAsg f gg) := by
  obtain ⟨t, a1, a2⟩ := h1.ex
  obtain ⟨u, b1, b2⟩ := h2.ex
  exact ⟨_, ps_asg a1 b1 hs hw hq, asgCon a2 b2⟩
/-! ### for -/
structure XI (X : Cx) (cm : Cm) (E : XS) (tg iter : Expr) (f : Env → Out (List D × Env)) : Prop where
  ex : ∃ wi, PI X tg iter wi ∧ ∀ W0 H σ r fps, Good cm W0 H σ r fps → ∀ R, Post (f r) (fun p => ∀ J H1 f1, Good cm W0 H1 σ p.2 f1 → Fram H fps H1 f1 [] → IsIt cm J p.1 (Wof W0 f1) H1 → R J H1) (XX cm E W0 H σ fps) → wi σ H R
def liftI (ns : List Nat) (f : Env → Out (List D)) : Env → Out (List D × Env) := fun r => match f (view ns r) with
  | .ok ds => .ok (ds, frzN ns r)
  | .exn x _ => .exn x (if shrs x.ds = true then frzN ns r else r)
  | .bad => .bad
theorem xi_lift {iter : Expr} {it : Env → Out (List D)} (ns : List Nat) (h : DI X cm E tg iter it) : XI X cm E tg iter (liftI ns it) := by
  obtain ⟨wi, h1, h2⟩ := h.ex
  refine ⟨wi, h1, fun W0 H σ r fps g R hp => h2 (Wr W0 fps ns) H σ (view ns r) (g.wr ns) (g.view ns) R ?_⟩
  unfold liftI at hp
  split at hp
  · rename_i ds hd
    rw [hd]
    intro J H1 e1 isit
    have hW : ∀ a, Wof W0 (fun j => if ns.contains j = true then [] else fps j) a → Wr W0 fps ns a := fun a z => by
      rcases z with z | ⟨j, m⟩
      · exact .inl z
      · dsimp only at m
        split at m
        · cases m
        · rename_i h
          exact .inr ⟨j, by simpa using h, m⟩
    have hW' : ∀ a, Wr W0 fps ns a → Wof W0 (fun j => if ns.contains j = true then [] else fps j) a := fun a z => by
      rcases z with z | ⟨j, hj, m⟩
      · exact .inl z
      · exact .inr ⟨j, by dsimp only; rw [if_neg (by rw [hj]; simp)]; exact m⟩
    refine hp J H1 _ ((g.frzN ns).ex e1) ⟨fun a o q _ t => e1.get a o q t, fun i a m => ?_, fun _ m => (nomatch m), fun _ q => e1.back q, e1.tb⟩ fun W' H2 i l => isit W' H2 i ⟨fun a z => (l.1 a z).imp (hW a) id, fun a o q n t => l.2.1 a o q (fun z => n (hW a z)) t, l.2.2⟩
    split at m
    · cases m
    · exact .inl ⟨i, m⟩
  · rename_i x r' hd
    rw [hd]
    exact XX.of_x g ns hp r'
  · exact hp.elim
def iXL (f : FX) : Env → Out (List D × Env) := fun r => (f r).bind fun p => match frz p.1 with
  | .lst _ xs => .ok (xs, p.2)
  | _ => .bad
theorem xi_list {a : Expr} {f : FX} (h : XE X cm E a f) : XI X cm E tg a (iXL f) := by
  obtain ⟨ta, h1, h2⟩ := h.ex
  refine ⟨_, pi_list h1, fun W0 H σ r fps g R hp => h2 W0 H σ r fps g _ (hp.bind.mono (fun p q v H1 f1 p1 g1 k1 n1 w1 m1 => ?_) fun _ _ z => z)⟩
  split at q
  · rename_i o xs hx
    have ko := k1.open g1 w1 fun _ m => m
    rw [hx] at ko
    generalize hf : ([] : List Addr) = fp at ko
    cases ko with
    | lstO => cases hf
    | lstF h n rs =>
      refine ⟨_, rfl, ⟨_, SqL.of h⟩, q _ H1 f1 g1.drop (m1.addv fun _ m => (nomatch m)) fun W' H2 i l => ?_⟩
      have h2' := l.2.1 _ _ h n
      refine ⟨fun d hd => ?_, fun hd => ⟨_, SqL.of h2', by rw [rs.len]; exact List.getElem?_eq_none_iff.mp hd⟩⟩
      obtain ⟨u, hu, ru⟩ := rs.at rfl hd
      refine ⟨⟨_, _, SqL.of h2', hu⟩, fun x H3 y => ?_⟩
      obtain ⟨rfl, y⟩ := y
      have := y _ (SqL.of h2')
      rw [hu] at this
      cases this
      exact ⟨Ex.refl _, ru.later l⟩
  · exact q.elim
def iXR1 (h : Env → Out (List D × Env)) : Env → Out (List D × Env) := fun r => (h r).bind fun p => match p.1 with
  | [.int j] => if -1000000 ≤ j ∧ j ≤ 1000000 then .ok (rng 0 j.toNat, p.2) else .bad
  | _ => .bad
def iXR2 (h : Env → Out (List D × Env)) : Env → Out (List D × Env) := fun r => (h r).bind fun p => match p.1 with
  | [.int i, .int j] => if (-1000000 ≤ i ∧ i ≤ 1000000) ∧ -1000000 ≤ j ∧ j ≤ 1000000 then .ok (rng i (j - i).toNat, p.2) else .bad
  | _ => .bad
theorem xi_range1 {a : Expr} {p : Pos} {fs : Env → Out (List D × Env)} (hg : Gl X "range") (hm : X.mg "range" = none) (ha : XA X cm E [a] fs) (hs : starEach [a] X.env = [(false, eval a X.env)] := by rfl) : XI X cm E tg (.Call (.Name "range" p) [a] [] pos) (iXR1 fs) := by
  obtain ⟨ta, h1, h2⟩ := ha.ex
  refine ⟨_, pi_range1 hg hm h1 hs, fun W0 H σ r fps g R hp => h2 W0 H σ r fps g _ (hp.bind.mono (fun p q vs H1 f1 p1 g1 k1 n1 w1 m1 => ?_) fun _ _ z => z)⟩
  obtain ⟨ds, r'⟩ := p
  dsimp only at q k1 g1
  split at q
  · split at q
    · rename_i hz
      cases k1 with
      | cons k1 k2 =>
        cases k1; cases k2
        exact ⟨_, rfl, by omega, by omega, q _ H1 f1 g1.drop (m1.addv fun _ m => (nomatch m)) isIt_rng⟩
    · exact q.elim
  · exact q.elim
theorem xi_range2 {a c : Expr} {p : Pos} {fs : Env → Out (List D × Env)} (hg : Gl X "range") (hm : X.mg "range" = none) (ha : XA X cm E [a, c] fs) (hs : starEach [a, c] X.env = [(false, eval a X.env), (false, eval c X.env)] := by rfl) (hs2 : starEach [c] X.env = [(false, eval c X.env)] := by rfl) : XI X cm E tg (.Call (.Name "range" p) [a, c] [] pos) (iXR2 fs) := by
  obtain ⟨ta, h1, h2⟩ := ha.ex
  refine ⟨_, pi_range2 hg hm h1 hs hs2, fun W0 H σ r fps g R hp => h2 W0 H σ r fps g _ (hp.bind.mono (fun p q vs H1 f1 p1 g1 k1 n1 w1 m1 => ?_) fun _ _ z => z)⟩
  obtain ⟨ds, r'⟩ := p
  dsimp only at q k1 g1
  split at q
  · split at q
    · rename_i hz
      cases k1 with
      | cons k1 k2 =>
        cases k1
        cases k2 with
        | cons k2 k3 =>
          cases k2; cases k3
          exact ⟨_, _, rfl, ⟨by omega, by omega, by omega, by omega⟩, q _ H1 f1 g1.drop (m1.addv fun _ m => (nomatch m)) isIt_rng⟩
    · exact q.elim
  · exact q.elim
theorem ds_for {iter : Expr} {body : List Stmt} {it : Env → Out (List D × Env)} {gg : D → Env → Out Env} (hp' : PassesOwn (model X.prog X.w) X.A X.env X.xe) (hc : X.calm = true) (hi : XI X cm E tg iter it) (hg : XG X cm ks tg gg) (hb : DSs X cm E ks body g) (hs : ∀ x, foldedSetIterable iter X.env x = pure x := by intro _; rfl) : DS X cm E ks (.For tg iter body [] pos) (sFor it gg g) := by
  obtain ⟨wi, i1, i2⟩ := hi.ex
  obtain ⟨gt, g1, g2⟩ := hg.ex
  obtain ⟨tb, b1, b2⟩ := hb.ex
  refine ⟨_, ps_for hp' hc i1 g1 b1 hs, fun W0 H σ r fps gd D hp => i2 W0 H σ r fps gd _ ?_⟩
  unfold sFor at hp
  split at hp
  · rename_i p hr
    rw [hr]
    obtain ⟨ds, r1⟩ := p
    intro J H1 f1 gd1 fm1 isit
    have hp : SPost cm E W0 H1 σ f1 ks D (forS gg g ds r1) := SPost.later fm1 (Keep.refl ks σ) hp
    refine ⟨fun i m σ' H' => m = ds.length - i ∧ i ≤ ds.length ∧ ∃ r' f', Good cm W0 H' σ' r' f' ∧ Fram H1 f1 H' f' [] ∧ Keep ks σ σ' ∧ SPost cm E W0 H1 σ f1 ks D (forS gg g (ds.drop i) r'), ⟨ds.length, by simp, Nat.zero_le _, r1, f1, gd1, Fram.refl _ _, Keep.refl ks σ, hp⟩, ?_⟩
    rintro i m σ' H' ⟨rfl, hi, r', f', g', fm', k', hq⟩
    have hl : Later cm (Wof W0 f1) H1 (Wof W0 f') H' := ⟨fun a z => by
      rcases z with z | ⟨j, z⟩
      · exact .inl (.inl z)
      · rcases fm'.old j a z with ⟨j, q⟩ | q
        · exact .inl (.inr ⟨j, q⟩)
        · exact .inr q, fun a o q n t => fm'.keep a o q (fun j m => n (.inr ⟨j, m⟩)) t, g'.wof⟩
    by_cases hlt : i < ds.length
    · right
      obtain ⟨d, hd⟩ : ∃ d, ds[i]? = some d := ⟨ds[i], by simp [hlt]⟩
      obtain ⟨go, yl⟩ := (isit _ H' i hl).1 d hd
      have hdrop : ds.drop i = d :: ds.drop (i + 1) := by
        rw [List.drop_eq_getElem_cons hlt]
        congr 1
        have := List.getElem?_eq_getElem hlt
        rw [this] at hd
        exact Option.some.inj hd
      rw [hdrop] at hq
      refine ⟨go, fun σ5 H5 => ∃ r' f', Good cm W0 H5 σ5 r' f' ∧ Fram H1 f1 H5 f' [] ∧ Keep ks σ σ5 ∧ SPost cm E W0 H1 σ f1 ks D (forS gg g (ds.drop (i + 1)) r'), fun σ5 H5 h5 => ⟨ds.length - (i + 1), by omega, rfl, hlt, h5⟩, fun x H3 y => ?_⟩
      obtain ⟨e3, r3⟩ := yl x H3 y
      have fm3 : Fram H1 f1 H3 f' [] := fm'.trans (Fram.of_ex e3 fun _ m => (nomatch m))
      refine g2 W0 H3 σ' r' f' x d (g'.ex e3) r3 _ ?_
      unfold forS at hq
      split at hq
      · rename_i r2 hr2
        rw [hr2]
        intro σ2 f2 gd2 sub2 k2
        have fm2 : Fram H1 f1 H3 f2 [] := ⟨@Fram.keep _ _ _ _ _ _ fm3, fun j a m => fm3.old j a (sub2 j a m), fun _ m => (nomatch m), fm3.back, fm3.tb⟩
        refine b2 W0 H3 σ2 r2 f2 gd2 _ ?_
        cases hb : g r2 with
        | nx r4 =>
          rw [hb] at hq
          exact fun σ4 H4 f4 g4 fm4 k4 => ⟨r4, f4, g4, fm2.trans fm4, (k'.trans k2).trans k4, hq⟩
        | ct r4 =>
          rw [hb] at hq
          exact fun σ4 H4 f4 g4 fm4 k4 => ⟨r4, f4, g4, fm2.trans fm4, (k'.trans k2).trans k4, hq⟩
        | bk r4 =>
          rw [hb] at hq
          exact fun σ4 H4 f4 g4 fm4 k4 => hq σ4 H4 f4 g4 (fm2.trans fm4) ((k'.trans k2).trans k4)
        | rt d4 r4 =>
          rw [hb] at hq
          exact fun v σ4 H4 f4 p4 g4 rp nd nw fm4 k4 => hq v σ4 H4 f4 p4 g4 rp nd nw (fm2.trans fm4) ((k'.trans k2).trans k4)
        | exn x4 r4 =>
          rw [hb] at hq
          exact fun σ4 H4 f4 dx g4 fm4 k4 xr => hq σ4 H4 f4 dx g4 (fm2.trans fm4) ((k'.trans k2).trans k4) xr
        | bad => rw [hb] at hq; exact hq.elim
      · exact hq.elim
    · left
      have e : i = ds.length := by omega
      subst e
      refine ⟨(isit _ H' _ hl).2 (by simp), ?_⟩
      rw [List.drop_length] at hq
      exact hq σ' H' f' g' fm' k'
  · rename_i x r' hr
    rw [hr]
    exact fun H' fps' dx g' fm xr => hp σ H' fps' dx g' fm (Keep.refl ks σ) xr
  · exact hp.elim
end
end DL

namespace DL
variable [Tbs]
open PySem L2
open PyProof.Rows (envOfC)

/-! ### calls with room, and nothing under way that is being shown -/
structure RoomG (k : Nat) (A : Around) : Prop where
  rm : Room k A
  gd : A.guards = some []
theorem RoomG.mono {j k : Nat} {A : Around} (r : RoomG k A) (h : j ≤ k) : RoomG j A := ⟨r.rm.mono h, r.gd⟩
theorem RoomG.units {k : Nat} {A : Around} (r : RoomG k A) : A.units + 64 < cLine := r.rm.units
theorem RoomG.down {k : Nat} {A : Around} (r : RoomG (k + 1) A) (e : PySem.Env) : RoomG k (A.deeper e) := ⟨r.rm.deeper e, r.gd⟩
structure FnG (P : Program) (w : World) (K : PySem.W.Frag) (mg : Str → Option Value) (base : Heap) (k : Nat) (f : Addr) (fd : FuncData) (ps : List Str) (sp : Sp) : Prop where
  len : ∀ vs H Q E, sp vs H Q E → vs.length = ps.length
  go : ∀ (A : Around) (outer : List PySem.Env) (s : Shared) (H : Hp) (args : Args) (us : List Value) (vs : List V) (Q : VK) (E : XK), RoomG k A → Env0 P w K mg base A outer s H → BindsTo s fd args (ps.zip us) → Vals vs us → sp vs H Q E →
    codeAny (model P w) A (.call (.ref f) args) (CR (L2.CX P w) outer P w H s Q E) s
theorem FnG.mono {P : Program} {w : World} {K : PySem.W.Frag} {mg : Str → Option Value} {base : Heap} {j k : Nat} {f : Addr} {fd : FuncData} {ps : List Str} {sp : Sp} (F : FnG P w K mg base j f fd ps sp) (h : j ≤ k) : FnG P w K mg base k f fd ps sp :=
  ⟨F.len, fun A o s H ar us vs Q E hr => F.go A o s H ar us vs Q E (hr.mono h)⟩
theorem FnG.imp {P : Program} {w : World} {K : PySem.W.Frag} {mg : Str → Option Value} {base : Heap} {k : Nat} {f : Addr} {fd : FuncData} {ps : List Str} {sp sp' : Sp} (F : FnG P w K mg base k f fd ps sp) (h : ∀ vs H Q E, sp' vs H Q E → sp vs H Q E) : FnG P w K mg base k f fd ps sp' :=
  ⟨fun vs H Q E z => F.len vs H Q E (h vs H Q E z), fun A o s H ar us vs Q E hr e0 hb hv z => F.go A o s H ar us vs Q E hr e0 hb hv (h vs H Q E z)⟩
/-- a body's context -/
abbrev cxB (P : Program) (w : World) (K : PySem.W.Frag) (mg : Str → Option Value) (base : Heap) (N : List Str) (qual : Str) (sc : Scope) (f : Addr) (cdv : Value) (A : Around) (outer : List PySem.Env) (s : Shared) (H : Hp) (E : XK) : Cx := cxOf (L2.CX P w) P w K mg base N qual sc f cdv A outer s H E
theorem fnG_of {P : Program} {w : World} {K : PySem.W.Frag} {mg : Str → Option Value} {base : Heap} {x qual : Str} {st : Stmt} {f : Addr} {fd : FuncData} {N ps : List Str} {k : Nat} {sp : Sp} (F : Fun K x qual st f fd) (S : FnScope N ps (defScope st)) (len : ∀ vs H Q E, sp vs H Q E → vs.length = ps.length)
    (hb : ∀ (cdv : Value) (A : Around) (outer : List PySem.Env) (s : Shared) (H : Hp) (vs : List V) (Q : VK) (E : XK), RoomG k (A.deeper (envOfC qual (defScope st) s.heap.objs.size f cdv)) → sp vs H Q E →
      ∃ t, PSs (cxB P w K mg base N qual (defScope st) f cdv A outer s H E) (defBody st) t ∧ t { nx := fun _ H' => Q .non H', rt := Q } (L2.start N vs) H) : FnG P w K mg base (k + 1) f fd ps sp := by
  obtain ⟨oc, od, kV, doc, pm, an, cdv, ct, osl, rfl, lk, hcd⟩ := F.ex
  refine ⟨len, fun A o s H ar us vs Q E hr e0 bd rv z => ?_⟩
  have keepB : ∀ a u, base.get? a = some u → s.heap.get? a = some u := fun a u h => (e0.bs a u h).1
  have kin := e0.mod.kin.keeps keepB
  have nol := e0.mod.nolimit.keeps keepB
  have par : ∀ y ∈ ps.zip us, (defScope st).names.lookup y.1 = some .local ∨ ((defScope st).names.lookup y.1 = some .cell ∧ ((cellsFrom (s.heap.objs.size + 1) (defScope st).names []).lookup y.1).isSome = true) := by
    rintro ⟨n, v⟩ hy
    exact (S.par n (List.of_mem_zip hy).1).imp id fun q => ⟨q, PySem.W.cellsFrom_some _ _ _ (.inl q)⟩
  apply codeAny_call_function hr.rm.depth (kin _ _ lk) rfl S.co S.gen rfl (PySem.W.codeRec_of kin hcd)
  apply bd
  apply wpAny_newFunctionEnv_cells S.kind par
  rintro env rfl s1 x
  refine ⟨nol.keeps x.toInCall.keep, codeAny_func ?_⟩
  obtain ⟨t, ht, q⟩ := hb cdv A o s H vs Q E (hr.down _) z
  have I := inv_start (CX := L2.CX P w) (E := E) S hr.rm.hd e0 (len _ _ _ _ z) rv x
  refine wpAny_mono (ht.run [] s1 _ H _ I q) ?_ fun _ _ h => h
  intro fl s' hs
  match fl, hs with
  | .ret u, ⟨v, σ', H', J, rv, q⟩ => exact ⟨v, H', J.os, J.bare, J.base, J.hok, rv, q⟩
  | .next, ⟨σ', H', J, q⟩ => exact ⟨V.non, H', J.os, J.bare, J.base, J.hok, rfl, q⟩
  | .brk, ⟨_, _, _, q⟩ => exact q.elim
  | .cont, ⟨_, _, _, q⟩ => exact q.elim
/-- a def with defaults as it stands behind the top -/
structure FunE (K : PySem.W.Frag) (x qual : Str) (st : Stmt) (dvs : List V) (f : Addr) (fd : FuncData) : Prop where
  ex : ∃ (oc : Value) (od : Option Addr) (dV kV doc pm : Value) (an : Option Addr) (cdv ct : Value) (osl : Array (Option Value)),
    fd = PySem.W.fnOf x qual (defArgs st) (defBody st) (defScope st) dV kV doc pm an cdv ct ∧ K.lookup f = some ⟨oc, od, .func fd, osl⟩ ∧ PySem.W.codeIn K cdv qual = true ∧ DflV K dV dvs
  kp : PySem.W.keepIn K (.ref f) = true
theorem funE_mk {K : PySem.W.Frag} {x qual : Str} {st : Stmt} {f T : Addr} {oc oT : Value} {od an dT : Option Addr} {osl slT : Array (Option Value)} {kV doc pm cdv ct : Value} {its : List Value} {n : Nat} {dvs : List V} (l : K.lookup f = some ⟨oc, od, .func (PySem.W.fnOf x qual (defArgs st) (defBody st) (defScope st) (.ref T) kV doc pm an cdv ct), osl⟩)
    (c : PySem.W.codeIn K cdv qual = true) (k : PySem.W.keepIn K (.ref f) = true) (lT : K.lookup T = some ⟨oT, dT, .seq its.toArray n, slT⟩) (hv : Vals dvs its) (hne : dvs ≠ []) : FunE K x qual st dvs f (PySem.W.fnOf x qual (defArgs st) (defBody st) (defScope st) (.ref T) kV doc pm an cdv ct) :=
  ⟨⟨oc, od, .ref T, kV, doc, pm, an, cdv, ct, osl, rfl, l, c, .inr ⟨hne, T, _, its, n, rfl, lT, rfl, hv⟩⟩, k⟩
theorem toE {K : PySem.W.Frag} {x qual : Str} {st : Stmt} {f : Addr} {fd : FuncData} (F : Fun K x qual st f fd) : FunE K x qual st [] f fd := by
  obtain ⟨oc, od, kV, doc, pm, an, cdv, ct, osl, rfl, lk, hcd⟩ := F.ex
  exact ⟨⟨oc, od, .none, kV, doc, pm, an, cdv, ct, osl, rfl, lk, hcd, .inl ⟨rfl, rfl⟩⟩, F.kp⟩
theorem FunE.all {K : PySem.W.Frag} {x qual : Str} {st : Stmt} {dvs : List V} {f : Addr} {fd : FuncData} {ps : List Str} (F : FunE K x qual st dvs f fd)
    (h : ∀ (dV kV doc pm : Value) (an : Option Addr) (cdv ct : Value) (us : List Value), us.length = ps.length → bindArgs (PySem.W.fnOf x qual (defArgs st) (defBody st) (defScope st) dV kV doc pm an cdv ct) ⟨us, []⟩ = pure (ps.zip us)) : Binds K fd ps [] := by
  obtain ⟨oc, od, dV, kV, doc, pm, an, cdv, ct, osl, rfl, lk, hcd, _⟩ := F.ex
  exact .all (h dV kV doc pm an cdv ct)
/-- n values are handed in, the defaults behind the first j fill up -/
theorem FunE.some {K : PySem.W.Frag} {x qual : Str} {st : Stmt} {dvs : List V} {f : Addr} {fd : FuncData} {ps : List Str} (F : FunE K x qual st dvs f fd) (n j : Nat) (hd : dvs ≠ []) (hn : n + (dvs.length - j) = ps.length)
    (h : ∀ (T : Addr) (kV doc pm : Value) (an : Option Addr) (cdv ct : Value) (us its : List Value), us.length = n → its.length = dvs.length →
      ∃ k, bindArgs (PySem.W.fnOf x qual (defArgs st) (defBody st) (defScope st) (.ref T) kV doc pm an cdv ct) ⟨us, []⟩ = seqItems? (.ref T) >>= k ∧ k (some its.toArray) = pure (ps.zip (us ++ its.drop j))) : ∃ ds, Vals (dvs.drop j) ds ∧ Binds K fd ps ds := by
  obtain ⟨oc, od, dV, kV, doc, pm, an, cdv, ct, osl, rfl, lk, hcd, hD⟩ := F.ex
  rcases hD with ⟨e, _⟩ | ⟨_, T, o, its, m, rfl, lT, oT, rT⟩
  · exact absurd e hd
  · refine ⟨its.drop j, rT.drop j, fun s us X hlen => ?_⟩
    have l1 : its.length = dvs.length := rT.length.symm
    have l2 : us.length = n := by
      rw [List.length_append, List.length_drop, l1] at hlen
      omega
    obtain ⟨k, e1, e2⟩ := h T kV doc pm an cdv ct us its l2 l1
    refine BindsTo.of_looks fun M => ?_
    rw [e1]
    exact looks_items X lT oT (.of_pure e2)
theorem fnE_ofc {P : Program} {w : World} {K : PySem.W.Frag} {mg : Str → Option Value} {base : Heap} {x qual : Str} {st : Stmt} {dvs : List V} {f : Addr} {fd : FuncData} {N ps : List Str} {k : Nat} {sp : Sp} (F : FunE K x qual st dvs f fd) (S : FnScope N ps (defScope st)) (len : ∀ vs H Q E, sp vs H Q E → vs.length = ps.length)
    (hb : ∀ (cdv : Value), fd.code = cdv → ∀ (A : Around) (outer : List PySem.Env) (s : Shared) (H : Hp) (vs : List V) (Q : VK) (E : XK), RoomG k (A.deeper (envOfC qual (defScope st) s.heap.objs.size f cdv)) → sp vs H Q E →
      ∃ t, PSs (cxB P w K mg base N qual (defScope st) f cdv A outer s H E) (defBody st) t ∧ t { nx := fun _ H' => Q .non H', rt := Q } (L2.start N vs) H) : FnG P w K mg base (k + 1) f fd ps sp := by
  obtain ⟨oc, od, dV, kV, doc, pm, an, cdv, ct, osl, rfl, lk, hcd, _⟩ := F.ex
  refine ⟨len, fun A o s H ar us vs Q E hr e0 bd rv z => ?_⟩
  have keepB : ∀ a u, base.get? a = some u → s.heap.get? a = some u := fun a u h => (e0.bs a u h).1
  have kin := e0.mod.kin.keeps keepB
  have nol := e0.mod.nolimit.keeps keepB
  have par : ∀ y ∈ ps.zip us, (defScope st).names.lookup y.1 = some .local ∨ ((defScope st).names.lookup y.1 = some .cell ∧ ((cellsFrom (s.heap.objs.size + 1) (defScope st).names []).lookup y.1).isSome = true) := by
    rintro ⟨n, v⟩ hy
    exact (S.par n (List.of_mem_zip hy).1).imp id fun q => ⟨q, PySem.W.cellsFrom_some _ _ _ (.inl q)⟩
  apply codeAny_call_function hr.rm.depth (kin _ _ lk) rfl S.co S.gen rfl (PySem.W.codeRec_of kin hcd)
  apply bd
  apply wpAny_newFunctionEnv_cells S.kind par
  rintro env rfl s1 x
  refine ⟨nol.keeps x.toInCall.keep, codeAny_func ?_⟩
  obtain ⟨t, ht, q⟩ := hb cdv rfl A o s H vs Q E (hr.down _) z
  have I := inv_start (CX := L2.CX P w) (E := E) S hr.rm.hd e0 (len _ _ _ _ z) rv x
  refine wpAny_mono (ht.run [] s1 _ H _ I q) ?_ fun _ _ h => h
  intro fl s' hs
  match fl, hs with
  | .ret u, ⟨v, σ', H', J, rv, q⟩ => exact ⟨v, H', J.os, J.bare, J.base, J.hok, rv, q⟩
  | .next, ⟨σ', H', J, q⟩ => exact ⟨V.non, H', J.os, J.bare, J.base, J.hok, rfl, q⟩
  | .brk, ⟨_, _, _, q⟩ => exact q.elim
  | .cont, ⟨_, _, _, q⟩ => exact q.elim
theorem fnE_of {P : Program} {w : World} {K : PySem.W.Frag} {mg : Str → Option Value} {base : Heap} {x qual : Str} {st : Stmt} {dvs : List V} {f : Addr} {fd : FuncData} {N ps : List Str} {k : Nat} {sp : Sp} (F : FunE K x qual st dvs f fd) (S : FnScope N ps (defScope st)) (len : ∀ vs H Q E, sp vs H Q E → vs.length = ps.length)
    (hb : ∀ (cdv : Value) (A : Around) (outer : List PySem.Env) (s : Shared) (H : Hp) (vs : List V) (Q : VK) (E : XK), RoomG k (A.deeper (envOfC qual (defScope st) s.heap.objs.size f cdv)) → sp vs H Q E →
      ∃ t, PSs (cxB P w K mg base N qual (defScope st) f cdv A outer s H E) (defBody st) t ∧ t { nx := fun _ H' => Q .non H', rt := Q } (L2.start N vs) H) : FnG P w K mg base (k + 1) f fd ps sp := fnE_ofc F S len fun cdv _ => hb cdv
/-- the promise of a def by another one of the same kind -/
theorem FnG.cast {P : Program} {w : World} {K : PySem.W.Frag} {mg : Str → Option Value} {base : Heap} {k : Nat} {f : Addr} {fd : FuncData} {ps : List Str} {sp sp' : Sp} (F : FnG P w K mg base k f fd ps sp) (h : sp = sp') : FnG P w K mg base k f fd ps sp' := h ▸ F
/-- what a callee lets out is let out here, at the slots -/
abbrev PassG (X : Cx) (E : XS) : Prop := ∀ σ, PassesAt (L2.CX X.prog X.w) X σ (E σ)
theorem pass_none {X : Cx} : PassG X E0' := fun σ _ _ _ _ _ _ h => by
  obtain ⟨_, _, _, _, _, _, _, _, _, _, _, _, z⟩ := h
  exact z.elim
theorem run_fnG {X : Cx} {k : Nat} {f : Addr} {fd : FuncData} {ps : List Str} {sp : Sp} {E : XS} {dvs : List V} {ds : List Value} {pins : List (Addr × Obj)} {σ : St} {H : Hp} {s : Shared} {Q : VK} {us : List Value} {vs : List V} (F : FnG X.prog X.w X.K X.mg X.base k f fd ps sp) (hr : RoomG k X.A) (hb : Binds X.K fd ps ds) (hd : Vals dvs ds) (hx : PassG X E)
    (I : Inv X pins σ H s) (r : Vals vs us) (h : sp (vs ++ dvs) H Q (E σ)) : wpAny (model X.prog X.w) X.A (call (.ref f) us) (EP X pins σ Q) X.xe s := by
  have r2 := r.append hd
  have hl : (us ++ ds).length = ps.length := r2.length.symm.trans (F.len _ _ _ _ h)
  apply wpAny_call
  apply codeAny_mono (F.go X.A X.stack s H ⟨us, []⟩ (us ++ ds) (vs ++ dvs) Q (E σ) hr I.env0 (hb s us I.kIn hl) r2 h)
  intro res s' hq
  match res, hq with
  | .error e, hq => exact hx σ pins H s e s' I hq
  | .ok (.ret u), hq => exact I.after hq
/-- f(..), what is raised wished for at the slots -/
def tCallG (sp : Sp) (dvs : List V) (E : XS) (t : TA) : TE := fun σ H Q => t σ H fun vs H1 => sp (vs ++ dvs) H1 Q (E σ)
theorem pe_callG {X : Cx} {k : Nat} {f : Addr} {fd : FuncData} {ps : List Str} {sp : Sp} {E : XS} {dvs : List V} {ds : List Value} {x : Str} {p pos : Pos} {e : Expr} {es : List Expr} {t : TA} (F : FnG X.prog X.w X.K X.mg X.base k f fd ps sp) (hr : RoomG k X.A) (hg : Gl X x) (hm : X.mg x = some (.ref f)) (hk : PySem.W.keepIn X.K (.ref f) = true) (hb : Binds X.K fd ps ds) (hd : Vals dvs ds) (hx : PassG X E)
    (ha : PA X (e :: es) t) (hdb : (x == ("__debug__" : Str)) = false := by decide) (he : starEach (e :: es) X.env = (false, eval e X.env) :: starEach es X.env := by rfl) (hpl : (backTo pos (starEach es X.env)).any (·.1) = false := by rfl) :
    PE X (.Call (.Name x p) (e :: es) [] pos) (tCallG sp dvs E t) := ⟨fun pins s σ H Q I h => wpAny_Call_Name_kw (ld_glob I hg hm (PySem.W.callWith_K (h₀ := X.base) I.ok.mod.kin hk (thn (ha.run pos pins s σ H _ I h) fun us s1 z => by
      obtain ⟨vs, H1, I1, r, q⟩ := z
      exact ⟨I1.kIn, run_fnG F hr hb hd hx I1 r q⟩) he hpl) hdb)⟩
/-! ### defs without effect on what is handed in -/
def runP (n N : Nat) (g : FS) (ds : List D) : Out D := if ds.length = n then (match g (ds.map some ++ List.replicate (N - n) none) with
  | .nx _ => .ok .non
  | .rt d _ => .ok d
  | .exn x _ => .exn x []
  | _ => .bad) else .bad
def spP (cm : Cm) (n : Nat) (m : List D → Out D) : Sp := fun vs H Q E => ∃ W ds, WOk cm W H ∧ Reps cm W H vs ds [] ∧ ds.length = n ∧ Post (m ds) (QP cm W true H Q) (XPost cm E W H)
theorem good_start {cm : Cm} {W : Addr → Prop} {H : Hp} {vs : List V} {ds : List D} (N : List Str) (w : WOk cm W H) (rp : Reps cm W H vs ds []) : Good cm W H (L2.start N vs) (ds.map some ++ List.replicate (N.length - ds.length) none) (fun _ => []) := by
  have hl := rp.len
  refine ⟨by unfold L2.start; simp [hl], w, fun i d h => ?_, fun _ => List.nodup_nil, fun _ _ _ m => (nomatch m), fun _ _ m => (nomatch m), fun _ _ m => (nomatch m)⟩
  rw [List.getElem?_append] at h
  unfold L2.start
  rw [List.getElem?_append]
  split at h
  · rename_i hi
    rw [List.length_map] at hi
    rw [List.getElem?_map] at h
    obtain ⟨d', h1, h2⟩ := Option.map_eq_some_iff.mp h
    cases h2
    obtain ⟨v, h3, h4⟩ := rp.at rfl h1
    refine ⟨v, ?_, h4.move (fun a z => .inl (z.resolve_right fun ⟨_, m⟩ => (nomatch m))) fun _ _ q _ _ => q⟩
    rw [if_pos (by rw [List.length_map, hl]; exact hi), List.getElem?_map, h3]
    rfl
  · rw [List.getElem?_replicate] at h
    split at h <;> cases h
theorem ex_of_fram {H H' : Hp} {fps' : Fps} {fpv : List Addr} (fm : Fram H (fun _ => []) H' fps' fpv) : Ex H H' := ⟨fun a o h t => fm.keep a o h (fun _ m => (nomatch m)) t, fm.back, fm.tb⟩
theorem fn_pureE {P : Program} {w : World} {K : PySem.W.Frag} {mg : Str → Option Value} {base : Heap} {cm : Cm} {x qual : Str} {st : Stmt} {dvs : List V} {f : Addr} {fd : FuncData} {N ps : List Str} {k : Nat} {g : FS} (F : FunE K x qual st dvs f fd) (S : FnScope N ps (defScope st))
    (hb : ∀ (cdv : Value) (A : Around) (outer : List PySem.Env) (s : Shared) (H : Hp) (E : XK), RoomG k (A.deeper (envOfC qual (defScope st) s.heap.objs.size f cdv)) → DSs (cxB P w K mg base N qual (defScope st) f cdv A outer s H E) cm (fun _ => E) k0 (defBody st) g) :
    FnG P w K mg base (k + 1) f fd ps (spP cm ps.length (runP ps.length N.length g)) := by
  refine fnE_of F S (fun vs H Q E h => ?_) (fun cdv A outer s H vs Q E hr h => ?_)
  · obtain ⟨W, ds, _, rp, hl, _⟩ := h
    rw [rp.len, hl]
  · obtain ⟨W, ds, w, rp, hl, hp⟩ := h
    obtain ⟨ts, h1, h2⟩ := (hb cdv A outer s H E hr).ex
    refine ⟨ts, h1, h2 W H (L2.start N vs) _ _ (good_start N w rp) _ ?_⟩
    unfold runP at hp
    rw [if_pos hl] at hp
    rw [hl]
    split at hp
    · rename_i r' hr'
      rw [hr']
      intro σ' H' fps' g' fm k'
      exact hp .non H' [] (ex_of_fram fm) .non FpN.nil
    · rename_i d r' hr'
      rw [hr']
      intro v σ' H' fps' fpv g' rp' nd nw fm k'
      refine hp v H' fpv (ex_of_fram fm) (rp'.move (fun a z => .inl (.inl z)) fun _ _ q _ _ => q) ⟨nd, fun a m => ?_⟩
      rcases fm.oldv a m with ⟨_, m⟩ | q
      · cases m
      · exact q
    · rename_i x r' hr'
      rw [hr']
      exact fun σ' H' fps' dx g' fm k' xr => hp H' dx (ex_of_fram fm) (xr.weak fun a z => .inl z)
    · exact hp.elim

theorem fn_pure {P : Program} {w : World} {K : PySem.W.Frag} {mg : Str → Option Value} {base : Heap} {cm : Cm} {x qual : Str} {st : Stmt} {f : Addr} {fd : FuncData} {N ps : List Str} {k : Nat} {g : FS} (F : Fun K x qual st f fd) (S : FnScope N ps (defScope st))
    (hb : ∀ (cdv : Value) (A : Around) (outer : List PySem.Env) (s : Shared) (H : Hp) (E : XK), RoomG k (A.deeper (envOfC qual (defScope st) s.heap.objs.size f cdv)) → DSs (cxB P w K mg base N qual (defScope st) f cdv A outer s H E) cm (fun _ => E) k0 (defBody st) g) :
    FnG P w K mg base (k + 1) f fd ps (spP cm ps.length (runP ps.length N.length g)) := fn_pureE (toE F) S hb

section
variable {X : Cx} {cm : Cm} {E : XS} {b : Bool} {pos p : Pos} {ks : Nat → Bool} {a c e : Expr} {es : List Expr} {x : Str} {k n : Nat} {f : Addr} {fd : FuncData} {ps : List Str} {m : List D → Out D}
theorem de_call {fs : Env → Out (List D)} (Fo : FnG X.prog X.w X.K X.mg X.base k f fd ps (spP cm n m)) (hr : RoomG k X.A) (hg : Gl X x) (hm : X.mg x = some (.ref f)) (hk : PySem.W.keepIn X.K (.ref f) = true) (hb : Binds X.K fd ps []) (hx : PassG X E) (ha : DA X cm E false (e :: es) fs) (hn : ps.length = n := by rfl) (hdb : (x == ("__debug__" : Str)) = false := by decide)
    (he : starEach (e :: es) X.env = (false, eval e X.env) :: starEach es X.env := by rfl) (hpl : (backTo pos (starEach es X.env)).any (·.1) = false := by rfl) : DE X cm E true (.Call (.Name x p) (e :: es) [] pos) (cA (fun ds => if ds.length = n then m ds else .bad) fs) := by
  obtain ⟨ta, h1, h2⟩ := ha.ex
  refine ⟨_, pe_callG Fo hr hg hm hk hb .nil hx h1 hdb he hpl, fun W H σ env w fr Q hp => h2 W H σ env w fr _ (hp.bind.mono (fun ds q vs H1 fp e1 r1 f1 => ?_) fun _ _ z => z)⟩
  split at q
  · rename_i hl
    cases (show fp = [] from f1)
    refine ⟨W, ds, w.ex e1, by rw [List.append_nil]; exact r1.ofP, hl, q.mono (fun d q3 z H3 fp3 e3 r3 f3 => q3 z H3 fp3 (e1.trans e3) r3 (f3.ex e1)) fun x rr z => XPost.ex e1 z⟩
  · exact q.elim
/-- a call whose arguments have effects -/
def xC (m : List D → Out D) (h : Env → Out (List D × Env)) : FX := fun r => (h r).bind fun p => match m (frzs p.1) with
  | .ok d => .ok (d, p.2)
  | .exn x _ => .exn x p.2
  | .bad => .bad
theorem xe_call {fs : Env → Out (List D × Env)} (Fo : FnG X.prog X.w X.K X.mg X.base k f fd ps (spP cm n m)) (hr : RoomG k X.A) (hg : Gl X x) (hm : X.mg x = some (.ref f)) (hk : PySem.W.keepIn X.K (.ref f) = true) (hb : Binds X.K fd ps []) (hx : PassG X E) (ha : XA X cm E (e :: es) fs) (hn : ps.length = n := by rfl) (hdb : (x == ("__debug__" : Str)) = false := by decide)
    (he : starEach (e :: es) X.env = (false, eval e X.env) :: starEach es X.env := by rfl) (hpl : (backTo pos (starEach es X.env)).any (·.1) = false := by rfl) : XE X cm E (.Call (.Name x p) (e :: es) [] pos) (xC (fun ds => if ds.length = n then m ds else .bad) fs) := by
  obtain ⟨ta, h1, h2⟩ := ha.ex
  refine ⟨_, pe_callG Fo hr hg hm hk hb .nil hx h1 hdb he hpl, fun W0 H σ r fps g Q hp => h2 W0 H σ r fps g _ (hp.bind.mono (fun p q vs H1 f1 p1 g1 k1 n1 w1 m1 => ?_) fun _ _ z => z)⟩
  have ko := k1.open g1 w1 fun _ m => m
  split at q
  · rename_i d hd
    dsimp only at hd
    split at hd
    · rename_i hl
      refine ⟨Wof W0 f1, frzs p.1, g1.drop.wof, by rw [List.append_nil]; exact ko, hl, ?_⟩
      rw [hd]
      intro v H2 fpv e2 rp fn
      have hm' : ∀ a ∈ fpv, MutAt H2 a := fun a m => rp.own a m
      refine q v H2 f1 fpv (g1.drop.addv e2 fn.2 hm') (rp.move (fun a z => .inl ?_) fun _ _ q _ _ => q) fn.1 (fun a m z => (g1.w0.1 a (.inl z)).there (fn.2 a m)) ((m1.trans (Fram.of_ex e2 fn.2)).addv fun a m => .inr (m1.back a (fn.2 a m)))
      rcases z with (z | z) | z
      · exact .inl (.inl z)
      · exact .inr z
      · exact .inl (.inr z)
    · cases hd
  · rename_i x' r' hd
    dsimp only at hd
    split at hd
    · rename_i hl
      refine ⟨Wof W0 f1, frzs p.1, g1.drop.wof, by rw [List.append_nil]; exact ko, hl, ?_⟩
      rw [hd]
      exact fun H' dx e2 xr => q H' f1 dx (g1.drop.ex e2) ((m1.trans (Fram.of_ex (fpv := []) e2 fun _ m => (nomatch m))).addv fun _ m => (nomatch m)) xr
    · cases hd
  · exact q.elim

/-! ### defs that change their first argument -/
abbrev fps0 (fp : List Addr) : Fps := fun j => if j = 0 then fp else []
abbrev QIO (cm : Cm) (W0 : Addr → Prop) (H : Hp) (fp : List Addr) (v0 : V) (Q : VK) : D × D → Prop := fun p => ∀ v H' fp' fpv, Rep cm (Wp W0 (fp' ++ fpv)) H' v0 p.2 fp' → Rep cm (Wp W0 (fp' ++ fpv)) H' v p.1 fpv → (fp' ++ fpv).Nodup → (∀ a ∈ fp' ++ fpv, ¬ W0 a) → Fram H (fps0 fp) H' (fps0 fp') fpv → Q v H'
/-- an exception out of it: the first argument as it is then -/
abbrev XIO (cm : Cm) (W0 : Addr → Prop) (H : Hp) (fp : List Addr) (v0 : V) (E : XK) : Xc → Env → Prop := fun x r => ∀ d1 H' fp' dx, r = [some d1] → Rep cm (Wp W0 fp') H' v0 d1 fp' → fp'.Nodup → (∀ a ∈ fp', ¬ W0 a) → Fram H (fps0 fp) H' (fps0 fp') [] → XRep cm (Wp W0 fp') H' x dx → E (.ref (cm.cl x.cls)) dx H'
def spX (cm : Cm) (n : Nat) (m : List D → Out (D × D)) : Sp := fun vs H Q E => ∃ W0 v0 d0 fp vs' ds', vs = v0 :: vs' ∧ WOk cm (Wp W0 fp) H ∧ fp.Nodup ∧ (∀ a ∈ fp, ¬ W0 a) ∧ Rep cm (Wp W0 fp) H v0 d0 fp ∧ Reps cm (Wp W0 fp) H vs' ds' [] ∧ ds'.length + 1 = n ∧ Post (m (d0 :: ds')) (QIO cm W0 H fp v0 Q) (XIO cm W0 H fp v0 E)
def runX (n N : Nat) (g : FS) (ds : List D) : Out (D × D) := if ds.length = n then (match g (ds.map some ++ List.replicate (N - n) none) with
  | .nx r => match r[0]? with
    | some (some d0) => .ok (.non, d0)
    | _ => .bad
  | .rt d r => match r[0]? with
    | some (some d0) => .ok (d, d0)
    | _ => .bad
  | .exn x r => match r[0]? with
    | some (some d0) => .exn x [some d0]
    | _ => .bad
  | _ => .bad) else .bad
theorem fn_ioE {P : Program} {w : World} {K : PySem.W.Frag} {mg : Str → Option Value} {base : Heap} {cm : Cm} {x qual : Str} {st : Stmt} {dvs : List V} {f : Addr} {fd : FuncData} {N ps : List Str} {k : Nat} {g : FS} (F : FunE K x qual st dvs f fd) (S : FnScope N ps (defScope st))
    (hb : ∀ (cdv : Value) (A : Around) (outer : List PySem.Env) (s : Shared) (H : Hp) (E : XK), RoomG k (A.deeper (envOfC qual (defScope st) s.heap.objs.size f cdv)) → DSs (cxB P w K mg base N qual (defScope st) f cdv A outer s H E) cm (fun _ => E) k1 (defBody st) g) :
    FnG P w K mg base (k + 1) f fd ps (spX cm ps.length (runX ps.length N.length g)) := by
  refine fnE_of F S (fun vs H Q E h => ?_) (fun cdv A outer s H vs Q E hr h => ?_)
  · obtain ⟨W0, v0, d0, fp, vs', ds', rfl, _, _, _, _, rp, hl, _⟩ := h
    rw [List.length_cons, rp.len, hl]
  · obtain ⟨W0, v0, d0, fp, vs', ds', rfl, w, nd, nw, rp0, rp, hl, hp⟩ := h
    obtain ⟨ts, h1, h2⟩ := (hb cdv A outer s H E hr).ex
    have hvl := rp.len
    have gd : Good cm W0 H (L2.start N (v0 :: vs')) ((d0 :: ds').map some ++ List.replicate (N.length - (d0 :: ds').length) none) (fps0 fp) := by
      have hw : ∀ a, Wof W0 (fps0 fp) a → Wp W0 fp a := fun a z => by
        rcases z with z | ⟨j, m⟩
        · exact .inl z
        · by_cases hj : j = 0
          · subst hj; exact .inr m
          · rw [show fps0 fp j = [] from if_neg hj] at m; cases m
      have f0 : ∀ {j a}, a ∈ fps0 fp j → j = 0 ∧ a ∈ fp := fun {j a} m => by
        by_cases hj : j = 0
        · subst hj; exact ⟨rfl, m⟩
        · rw [show fps0 fp j = [] from if_neg hj] at m; cases m
      refine ⟨by unfold L2.start; simp [hvl], ⟨fun a z => w.1 a (.inl z), w.2⟩, fun i d h => ?_, fun i => ?_, fun i j a m m' => by rw [(f0 m).1, (f0 m').1], fun i a m => nw a (f0 m).2, fun i a m => w.1 a (.inr (f0 m).2)⟩
      · cases i with
        | zero =>
          simp at h
          subst h
          exact ⟨v0, by simp [L2.start], rp0.move (fun a z => .inl (hw a z)) fun _ _ q _ _ => q⟩
        | succ i =>
          rw [List.map_cons, List.cons_append, List.getElem?_cons_succ, List.getElem?_append] at h
          unfold L2.start
          rw [List.map_cons, List.cons_append, List.getElem?_cons_succ, List.getElem?_append]
          split at h
          · rename_i hi
            rw [List.length_map] at hi
            rw [List.getElem?_map] at h
            obtain ⟨d', q1, q2⟩ := Option.map_eq_some_iff.mp h
            cases q2
            obtain ⟨v, q3, q4⟩ := rp.at rfl q1
            refine ⟨v, ?_, ?_⟩
            · rw [if_pos (by rw [List.length_map, hvl]; exact hi), List.getElem?_map, q3]
              rfl
            · rw [show fps0 fp (i + 1) = [] from rfl]
              exact q4.move (fun a z => .inl (hw a z)) fun _ _ q _ _ => q
          · rw [List.getElem?_replicate] at h
            split at h <;> cases h
      · by_cases hi : i = 0
        · subst hi; exact nd
        · rw [show fps0 fp i = [] from if_neg hi]; exact List.nodup_nil
    refine ⟨ts, h1, h2 W0 H (L2.start N (v0 :: vs')) _ (fps0 fp) gd _ ?_⟩
    unfold runX at hp
    have hl' : (d0 :: ds').length = ps.length := hl
    rw [if_pos hl'] at hp
    rw [hl']
    have h0 : (L2.start N (v0 :: vs'))[0]? = some (some v0) := by simp [L2.start]
    have fin : ∀ {v : V} {d d1 : D} {σ' : St} {H' : Hp} {fps' : Fps} {fpv : List Addr} {r' : Env}, Good cm (Wp W0 fpv) H' σ' r' fps' → Rep cm (Wof (Wp W0 fpv) fps') H' v d fpv → fpv.Nodup → (∀ a ∈ fpv, ¬ W0 a) → Fram H (fps0 fp) H' fps' fpv → Keep k1 (L2.start N (v0 :: vs')) σ' → r'[0]? = some (some d1) → QIO cm W0 H fp v0 Q (d, d1) → Q v H' := by
      intro v d d1 σ' H' fps' fpv r' g' rp' nd' nw' fm k' hr0 hq
      obtain ⟨u, k1, k2⟩ := g'.sl 0 d1 hr0
      rw [k'.2 0 rfl, h0] at k1
      cases k1
      have sub : ∀ a, Wp W0 (fps' 0 ++ fpv) a → Wof (Wp W0 fpv) fps' a := fun a z => by
        rcases z with z | z
        · exact .inl (.inl z)
        · rcases List.mem_append.mp z with z | z
          · exact .inr ⟨0, z⟩
          · exact .inl (.inr z)
      refine hq v H' (fps' 0) fpv (k2.move (fun a z => .inl (sub a z)) fun _ _ q _ _ => q) (rp'.move (fun a z => .inl (sub a z)) fun _ _ q _ _ => q) (List.nodup_append.mpr ⟨g'.nd 0, nd', fun a m c m' z => g'.nw 0 a m (.inr (z ▸ m'))⟩) (fun a m => ?_) ⟨@Fram.keep _ _ _ _ _ _ fm, fun j a m => ?_, fm.oldv, fm.back, fm.tb⟩
      · rcases List.mem_append.mp m with m | m
        · exact fun z => g'.nw 0 a m (.inl z)
        · exact nw' a m
      · by_cases hj : j = 0
        · subst hj; exact fm.old 0 a m
        · rw [show fps0 (fps' 0) j = [] from if_neg hj] at m; cases m
    split at hp
    · rename_i r' hr'
      rw [hr']
      split at hp
      · rename_i d1 hd1
        exact fun σ' H' fps' g' fm k' => fin (v := .non) (fpv := []) (by rw [wp_nil]; exact g') .non List.nodup_nil (fun _ m => (nomatch m)) fm k' hd1 hp
      · exact hp.elim
    · rename_i d r' hr'
      rw [hr']
      split at hp
      · rename_i d1 hd1
        exact fun v σ' H' fps' fpv g' rp' nd' nw' fm k' => fin g' rp' nd' nw' fm k' hd1 hp
      · exact hp.elim
    · rename_i x r' hr'
      rw [hr']
      split at hp
      · rename_i d1 hd1
        intro σ' H' fps' dx g' fm k' xr
        obtain ⟨u, k1, k2⟩ := g'.sl 0 d1 hd1
        rw [k'.2 0 rfl, h0] at k1
        cases k1
        have sub : ∀ a, Wp W0 (fps' 0) a → Wof W0 fps' a := fun a z => z.imp id fun z => ⟨0, z⟩
        refine hp d1 H' (fps' 0) dx rfl (k2.move (fun a z => .inl (sub a z)) fun _ _ q _ _ => q) (g'.nd 0) (fun a m => g'.nw 0 a m) ⟨@Fram.keep _ _ _ _ _ _ fm, fun j a m => ?_, fm.oldv, fm.back, fm.tb⟩ (xr.weak sub)
        by_cases hj : j = 0
        · subst hj; exact fm.old 0 a m
        · rw [show fps0 (fps' 0) j = [] from if_neg hj] at m; cases m
      · exact hp.elim
    · exact hp.elim
theorem fn_io {P : Program} {w : World} {K : PySem.W.Frag} {mg : Str → Option Value} {base : Heap} {cm : Cm} {x qual : Str} {st : Stmt} {f : Addr} {fd : FuncData} {N ps : List Str} {k : Nat} {g : FS} (F : Fun K x qual st f fd) (S : FnScope N ps (defScope st))
    (hb : ∀ (cdv : Value) (A : Around) (outer : List PySem.Env) (s : Shared) (H : Hp) (E : XK), RoomG k (A.deeper (envOfC qual (defScope st) s.heap.objs.size f cdv)) → DSs (cxB P w K mg base N qual (defScope st) f cdv A outer s H E) cm (fun _ => E) k1 (defBody st) g) :
    FnG P w K mg base (k + 1) f fd ps (spX cm ps.length (runX ps.length N.length g)) := fn_ioE (toE F) S hb
/-- f(x, ..), x the name in slot i: f changes what stands there -/
def xIO (i n : Nat) (m : List D → Out (D × D)) (h : Env → Out (List D × Env)) : FX := fun r => match r[i]? with
  | some (some _) => (h r).bind fun p => match p.2[i]? with
    | some (some d0) => if p.1.length + 1 = n then (match m (d0 :: frzs p.1) with
      | .ok q => .ok (q.1, p.2.set i (some q.2))
      | .exn x [some d1] => .exn x (p.2.set i (some d1))
      | _ => .bad) else .bad
    | _ => .bad
  | _ => .bad
theorem frzs_len : ∀ ds : List D, (frzs ds).length = ds.length
  | [] => rfl
  | d :: ds => by rw [frzs, List.length_cons, List.length_cons, frzs_len ds]
theorem io_back {W0 : Addr → Prop} {H H1 H2 : Hp} {σ : St} {r1 : Env} {fps f1 : Fps} {p1 fp' fpv : List Addr} {i : Nat} {v0 : V} {d1 : D} (g1' : Good cm W0 H1 σ r1 f1) (hv0 : σ[i]? = some (some v0)) (r0 : Rep cm (Wp (fun a => W0 a ∨ ∃ j, j ≠ i ∧ a ∈ f1 j) (fp' ++ fpv)) H2 v0 d1 fp') (own : ∀ a ∈ fpv, MutAt H2 a) (nd : (fp' ++ fpv).Nodup) (nw : ∀ a ∈ fp' ++ fpv, ¬ (W0 a ∨ ∃ j, j ≠ i ∧ a ∈ f1 j)) (fm : Fram H1 (fps0 (f1 i)) H2 (fps0 fp') fpv) (m1 : Fram H fps H1 f1 p1) :
    Good cm (Wp W0 fpv) H2 σ (r1.set i (some d1)) (fun j => if j = i then fp' else f1 j) ∧ Fram H fps H2 (fun j => if j = i then fp' else f1 j) fpv ∧ ∀ a, Wof (Wp W0 fpv) (fun j => if j = i then fp' else f1 j) a → Wp (fun a => W0 a ∨ ∃ j, j ≠ i ∧ a ∈ f1 j) (fp' ++ fpv) a := by
  have nd' := List.nodup_append.mp nd
  have hkeep : ∀ a o, H1 a = some o → a ∉ f1 i → (t : isTb o = false := by rfl) → H2 a = some o := fun a o q n t => fm.keep a o q (fun j m => by
    by_cases hj : j = 0
    · subst hj; exact n m
    · rw [show fps0 (f1 i) j = [] from if_neg hj] at m; cases m) t
  have hold : ∀ a, a ∈ fp' → a ∈ f1 i ∨ H1 a = none := fun a m => (fm.old 0 a m).imp (fun ⟨j, m⟩ => by
    by_cases hj : j = 0
    · subst hj; exact m
    · rw [show fps0 (f1 i) j = [] from if_neg hj] at m; cases m) id
  have holdv : ∀ a, a ∈ fpv → a ∈ f1 i ∨ H1 a = none := fun a m => (fm.oldv a m).imp (fun ⟨j, m⟩ => by
    by_cases hj : j = 0
    · subst hj; exact m
    · rw [show fps0 (f1 i) j = [] from if_neg hj] at m; cases m) id
  have hother : ∀ j a, j ≠ i → a ∈ f1 j → a ∉ fp' ∧ a ∉ fpv := fun j a hj m =>
    ⟨fun z => nw a (List.mem_append_left _ z) (.inr ⟨j, hj, m⟩), fun z => nw a (List.mem_append_right _ z) (.inr ⟨j, hj, m⟩)⟩
  have sub2 : ∀ {j a}, a ∈ (if j = i then fp' else f1 j) → (j = i ∧ a ∈ fp') ∨ (j ≠ i ∧ a ∈ f1 j) := fun {j a} m => by
    split at m
    · exact .inl ⟨by assumption, m⟩
    · exact .inr ⟨by assumption, m⟩
  have wback : ∀ a, Wof (Wp W0 fpv) (fun j => if j = i then fp' else f1 j) a → Wp (fun a => W0 a ∨ ∃ j, j ≠ i ∧ a ∈ f1 j) (fp' ++ fpv) a := fun a z => by
    rcases z with (z | z) | ⟨j, m⟩
    · exact .inl (.inl z)
    · exact .inr (List.mem_append_right _ z)
    · rcases sub2 m with ⟨_, m⟩ | ⟨hj, m⟩
      · exact .inr (List.mem_append_left _ m)
      · exact .inl (.inr ⟨j, hj, m⟩)
  have wold : ∀ a, Wof (Wp W0 fpv) (fun j => if j = i then fp' else f1 j) a → Wof W0 f1 a ∨ H1 a = none := fun a z => by
    rcases z with (z | z) | ⟨j, m⟩
    · exact .inl (.inl z)
    · exact (holdv a z).imp (fun m => .inr ⟨i, m⟩) id
    · rcases sub2 m with ⟨_, m⟩ | ⟨hj, m⟩
      · exact (hold a m).imp (fun m => .inr ⟨i, m⟩) id
      · exact .inl (.inr ⟨j, m⟩)
  have gd : Good cm (Wp W0 fpv) H2 σ (r1.set i (some d1)) (fun j => if j = i then fp' else f1 j) := by
    refine ⟨by rw [List.length_set]; exact g1'.len, ⟨fun a z => ?_, fm.tb g1'.w0.2⟩, fun j d hj => ?_, fun j => ?_, fun j j' a m m' => ?_, fun j a m z => ?_, fun j a m => ?_⟩
    · rcases z with z | z
      · obtain ⟨o, h1, h2⟩ := g1'.w0.1 a z
        exact ⟨o, hkeep a o h1 (fun m => g1'.nw i a m z) (isM_tb h2), h2⟩
      · exact own a z
    · rw [List.getElem?_set] at hj
      by_cases e : i = j
      · subst e
        rw [if_pos rfl] at hj
        split at hj
        · cases hj
          rw [if_pos rfl]
          exact ⟨v0, hv0, r0.move (fun a z => .inl (wback a z)) fun _ _ q _ _ => q⟩
        · cases hj
      · rw [if_neg e] at hj
        rw [if_neg (Ne.symm e)]
        obtain ⟨u, e1, e2⟩ := g1'.sl j d hj
        refine ⟨u, e1, e2.move (fun a z => wold a z) fun a o q t c => hkeep a o q (fun m => ?_) t⟩
        rcases c with c | c
        · exact c (.inr ⟨i, m⟩)
        · exact e (g1'.dj i j a m c)
    · split
      · exact nd'.1
      · exact g1'.nd j
    · rcases sub2 m with ⟨e, m⟩ | ⟨e, m⟩ <;> rcases sub2 m' with ⟨e', m'⟩ | ⟨e', m'⟩
      · rw [e, e']
      · exact absurd m (hother j' a e' m').1
      · exact absurd m' (hother j a e m).1
      · exact g1'.dj j j' a m m'
    · rcases sub2 m with ⟨e, m⟩ | ⟨e, m⟩
      · rcases z with z | z
        · exact nw a (List.mem_append_left _ m) (.inl z)
        · exact nd'.2.2 a m a z rfl
      · rcases z with z | z
        · exact g1'.nw j a m z
        · exact (hother j a e m).2 z
    · rcases sub2 m with ⟨e, m⟩ | ⟨e, m⟩
      · exact r0.own a m
      · obtain ⟨o, h1, h2⟩ := g1'.mu j a m
        exact ⟨o, hkeep a o h1 (fun m' => e (g1'.dj j i a m m')) (isM_tb h2), h2⟩
  refine ⟨gd, ⟨fun a o q n t => ?_, fun j a m => ?_, fun a m => ?_, fun a q => m1.back a (fm.back a q), fun h => fm.tb (m1.tb h)⟩, wback⟩
  · refine hkeep a o (m1.keep a o q n t) (fun m => ?_) t
    rcases m1.old i a m with ⟨j, m⟩ | z
    · exact n j m
    · rw [q] at z; cases z
  · rcases sub2 m with ⟨e, m⟩ | ⟨e, m⟩
    · rcases hold a m with m | z
      · exact m1.old i a m
      · exact .inr (m1.back a z)
    · exact m1.old j a m
  · rcases holdv a m with m | z
    · exact m1.old i a m
    · exact .inr (m1.back a z)
theorem io_con {mm : List D → Out (D × D)} {i : Nat} {ta : TA} {fs : Env → Out (List D × Env)} (h2 : ∀ W0 H σ r fps, Good cm W0 H σ r fps → ∀ Q, Post (fs r) (QXA cm W0 H σ fps Q) (XX cm E W0 H σ fps) → ta σ H Q) :
    ∀ W0 H σ r fps, Good cm W0 H σ r fps → ∀ Q, Post (xIO i n mm fs r) (QX cm W0 H σ fps Q) (XX cm E W0 H σ fps) → ∃ v0, σ[i]? = some (some v0) ∧ ta σ H fun vs H1 => spX cm n mm (v0 :: vs) H1 Q (E σ) := by
  intro W0 H σ r fps g Q hp
  unfold xIO at hp
  split at hp
  · rename_i d00 hd00
    obtain ⟨v0, hv0, _⟩ := g.sl i d00 hd00
    refine ⟨v0, hv0, h2 W0 H σ r fps g _ ((Post.bind hp).mono (fun p q vs H1 f1 p1 g1 k1 n1 w1 m1 => ?_) fun _ _ z => z)⟩
    have ko := k1.open g1 w1 fun _ m => m
    have g1' := g1.drop
    split at q
    · rename_i d0 hd0
      split at q
      · rename_i hl
        split at q
        · rename_i q' hq'
          obtain ⟨u, e1, e2⟩ := g1'.sl i d0 hd0
          rw [hv0] at e1
          cases e1
          have hsub : ∀ a, Wp (fun a => W0 a ∨ ∃ j, j ≠ i ∧ a ∈ f1 j) (f1 i) a → Wof W0 f1 a := fun a z => by
            rcases z with (z | ⟨j, _, m⟩) | z
            · exact .inl z
            · exact .inr ⟨j, m⟩
            · exact .inr ⟨i, z⟩
          refine ⟨fun a => W0 a ∨ ∃ j, j ≠ i ∧ a ∈ f1 j, v0, d0, f1 i, vs, frzs p.1, rfl, ⟨fun a z => g1'.wof.1 a (hsub a z), g1'.w0.2⟩, g1'.nd i, fun a m z => ?_, e2.move (fun a z => .inl (hsub a z)) fun _ _ q _ _ => q, ko.move (fun a z => .inl (hsub a z)) fun _ _ q _ _ => q, by rw [frzs_len]; exact hl, ?_⟩
          · rcases z with z | ⟨j, hj, m'⟩
            · exact g1'.nw i a m z
            · exact hj (g1'.dj j i a m' m)
          · rw [hq']
            intro v H2 fp' fpv r0 rv nd nw fm
            obtain ⟨gd, fr, wback⟩ := io_back g1' hv0 r0 (fun a m => rv.own a m) nd nw fm m1
            exact q v H2 _ fpv gd (rv.move (fun a z => .inl (wback a z)) fun _ _ q _ _ => q) (List.nodup_append.mp nd).2.1 (fun a m z => nw a (List.mem_append_right _ m) (.inl z)) fr
        · rename_i x1 d1 hq'
          obtain ⟨u, e1, e2⟩ := g1'.sl i d0 hd0
          rw [hv0] at e1
          cases e1
          have hsub : ∀ a, Wp (fun a => W0 a ∨ ∃ j, j ≠ i ∧ a ∈ f1 j) (f1 i) a → Wof W0 f1 a := fun a z => by
            rcases z with (z | ⟨j, _, m⟩) | z
            · exact .inl z
            · exact .inr ⟨j, m⟩
            · exact .inr ⟨i, z⟩
          refine ⟨fun a => W0 a ∨ ∃ j, j ≠ i ∧ a ∈ f1 j, v0, d0, f1 i, vs, frzs p.1, rfl, ⟨fun a z => g1'.wof.1 a (hsub a z), g1'.w0.2⟩, g1'.nd i, fun a m z => ?_, e2.move (fun a z => .inl (hsub a z)) fun _ _ q _ _ => q, ko.move (fun a z => .inl (hsub a z)) fun _ _ q _ _ => q, by rw [frzs_len]; exact hl, ?_⟩
          · rcases z with z | ⟨j, hj, m'⟩
            · exact g1'.nw i a m z
            · exact hj (g1'.dj j i a m' m)
          · rw [hq']
            intro d2 H2 fp' dx e r0 nd nw fm xr
            cases e
            obtain ⟨gd, fr, wback⟩ := io_back (fpv := []) g1' hv0 (by rw [List.append_nil]; exact r0) (fun _ m => nomatch m) (by rw [List.append_nil]; exact nd) (by rw [List.append_nil]; exact nw) fm m1
            rw [wp_nil] at gd
            refine q H2 _ dx gd fr (xr.weak fun a z => ?_)
            have := wback a (z.imp (fun z => .inl z) id)
            rw [List.append_nil] at this
            exact this
        · exact q.elim
      · exact q.elim
    · exact q.elim
  · exact hp.elim
theorem xe_io {mm : List D → Out (D × D)} (i : Nat) {fs : Env → Out (List D × Env)} (Fo : FnG X.prog X.w X.K X.mg X.base k f fd ps (spX cm n mm)) (hr : RoomG k X.A) (hg : Gl X x) (hm : X.mg x = some (.ref f)) (hk : PySem.W.keepIn X.K (.ref f) = true) (hb : Binds X.K fd ps []) (hx : PassG X E) (hv : PE X e (tVar i)) (ha : XA X cm E es fs) (hdb : (x == ("__debug__" : Str)) = false := by decide)
    (he : starEach (e :: es) X.env = (false, eval e X.env) :: starEach es X.env := by rfl) (hpl : (backTo pos (starEach es X.env)).any (·.1) = false := by rfl) : XE X cm E (.Call (.Name x p) (e :: es) [] pos) (xIO i n mm fs) := by
  obtain ⟨ta, h1, h2⟩ := ha.ex
  refine ⟨_, pe_callG Fo hr hg hm hk hb .nil hx (pa_cons hv h1 he) hdb he hpl, fun W0 H σ r fps g Q hp => ?_⟩
  obtain ⟨v0, q1, q2⟩ := io_con h2 W0 H σ r fps g Q hp
  refine ⟨v0, q1, ?_⟩
  show ta σ H fun vs H2 => spX cm n mm ((v0 :: vs) ++ []) H2 Q (E σ)
  simp only [List.append_nil]
  exact q2
end
end DL

namespace DL
variable [Tbs]
open PySem L2
section
variable {X : Cx} {cm : Cm} {E : XS} {b : Bool} {pos p : Pos} {ks : Nat → Bool} {a c e : Expr} {es : List Expr} {fa fb : F}

/-! ### join -/
def joinL (sep : List Nat) : List (List Nat) → List Nat
  | [] => []
  | x :: xs => x ++ (xs.map fun y => sep ++ y).flatten
def strsD : List D → Option (List (List Nat))
  | [] => some []
  | .str x :: ds => (strsD ds).map (x :: ·)
  | _ => none
theorem glued_fold (sep : List Nat) : ∀ (xs : List (List Nat)) (acc : List Nat), (xs.map fun y => (⟨y.toArray⟩ : Str)).foldl (fun acc p => acc ++ (⟨sep.toArray⟩ : Str).cps ++ p.cps) acc.toArray = (acc ++ (xs.map fun y => sep ++ y).flatten).toArray
  | [], acc => by simp
  | y :: ys, acc => by
    rw [List.map_cons, List.foldl_cons]
    show List.foldl _ (acc.toArray ++ sep.toArray ++ y.toArray) _ = _
    rw [List.append_toArray, List.append_toArray, glued_fold sep ys, List.map_cons, List.flatten_cons, List.append_assoc, List.append_assoc, List.append_assoc]
theorem txtJoin (sep : List Nat) (xs : List (List Nat)) : Txt.join ⟨sep.toArray⟩ (xs.map fun y => ⟨y.toArray⟩) = ⟨(joinL sep xs).toArray⟩ := by
  cases xs with
  | nil => rfl
  | cons x xs =>
    show Builtin.Str.glued _ _ = _
    unfold Builtin.Str.glued joinL
    congr 1
    exact glued_fold sep xs x
theorem strsD_reps {W : Addr → Prop} {H : Hp} : ∀ {vs : List V} {ds : List D} {fp : List Addr}, Reps cm W H vs ds fp → ∀ {xs : List (List Nat)}, strsD ds = some xs → vs = (xs.map fun y => (⟨y.toArray⟩ : Str)).map V.str
  | _, _, _, .nil, xs, h => by cases h; rfl
  | _, _, _, .cons (d := d) r rs, xs, h => by
    cases d <;> first | (cases h; done) | skip
    obtain ⟨ys, h1, rfl⟩ := Option.map_eq_some_iff.mp h
    cases r
    rw [strsD_reps rs h1]
    rfl
def lenSum (xs : List (List Nat)) : Nat := (xs.map List.length).sum
def gJoin : D → D → Out D := fun s l => match s, l with
  | .str sep, .lst _ ds => match strsD ds with
    | some xs => if lenSum xs + xs.length * sep.length ≤ 1000000 then .ok (.str (joinL sep xs)) else .bad
    | none => .bad
  | _, _ => .bad
abbrev rJoin (K : PySem.W.Frag) : V → List V → Hp → VK → Prop := fun x xs H Q => ∃ a p, ∃ ys : List Str, x = .str a ∧ xs = [.ref p] ∧ (SqL K H p (ys.map V.str) ∨ SqT K H p (ys.map V.str)) ∧ (ys.map (·.length)).sum + ys.length * a.length ≤ 16777216 ∧ Q (.str (Txt.join a ys)) H
theorem o_join {W : Addr → Prop} {H : Hp} {x y : V} {dx dy : D} {Q : VK} (rx : Rep cm W H x dx []) (ry : Rep cm W H y dy []) (hp : Post (gJoin dx dy) (QP cm W b H Q) noX) : (∃ a, x = .str a) ∧ rJoin X.K x [y] H Q := by
  unfold gJoin at hp
  split at hp
  · split at hp
    · rename_i xs hxs
      split at hp
      · rename_i hz
        cases rx
        generalize hf : ([] : List Addr) = fp at ry
        cases ry with
        | lstO => cases hf
        | lstF h n r =>
          have e := strsD_reps r hxs
          subst e
          refine ⟨⟨_, rfl⟩, _, _, _, rfl, rfl, .inl (SqL.of h), ?_, ?_⟩
          · have e1 : ((xs.map fun y => (⟨y.toArray⟩ : Str)).map (·.length)) = xs.map List.length := by
              rw [List.map_map]
              exact List.map_congr_left fun y _ => strLen y
            rw [e1, List.length_map, strLen]
            exact Nat.le_trans hz (by decide)
          · rw [txtJoin]
            exact hp _ H [] (Ex.refl H) (.str _) FpN.nil
      · exact hp.elim
    · exact hp.elim
  · exact hp.elim
theorem noEx_join : NoEx gJoin := fun a b x r h => by
  unfold gJoin at h
  split at h
  · split at h
    · split at h <;> cases h
    · cases h
  · cases h
/-- a method of a text: the text is looked at first -/
def isStrB : D → Bool
  | .str _ => true
  | _ => false
def c2S (g : D → D → Out D) (fa fb : F) : F := fun r => (fa r).bind fun a => if isStrB a = true then (fb r).bind fun b => g a b else .bad
theorem Rep.isStr {W : Addr → Prop} {H : Hp} {v : V} {d : D} {fp : List Addr} (r : Rep cm W H v d fp) (h : isStrB d = true) : ∃ a, v = .str a := by
  cases d <;> first | (cases h; done) | skip
  cases r
  exact ⟨_, rfl⟩
theorem de_m1 {te : TE → TE → TE} {r : V → List V → Hp → VK → Prop} {g : D → D → Out D} (hpe : ∀ ta tb, PE X a ta → PE X c tb → PE X e (tM1 r ta tb)) (ho : ∀ W H x y dx dy, WOk cm W H → Rep cm W H x dx [] → Rep cm W H y dy [] → ∀ Q : VK, Post (g dx dy) (QP cm W b H Q) noX → r x [y] H Q) (hn : NoEx g) (ha : DE X cm E false a fa) (hb : DE X cm E false c fb) : DE X cm E b e (c2S g fa fb) := by
  obtain ⟨ta, h1, h2⟩ := ha.ex
  obtain ⟨tb, h3, h4⟩ := hb.ex
  refine ⟨_, hpe ta tb h1 h3, fun W H σ env w fr Q hp => h2 W H σ env w fr _ (hp.bind.mono (fun d q v H1 fp e1 r1 f1 => ?_) fun _ _ z => z)⟩
  cases (show fp = [] from f1)
  split at q
  · rename_i hs
    refine ⟨r1.isStr hs, h4 W H1 σ env (w.ex e1) (fr.ex e1) _ (q.bind.mono (fun d2 q2 u H2 fp2 e2 r2 f2 => ?_) fun x rr z => XPost.ex e1 z)⟩
    cases (show fp2 = [] from f2)
    exact ho W H2 v u d d2 ((w.ex e1).ex e2) (r1.ex e2).ofP r2.ofP Q (Post.noX (q2.mono (fun d q3 z H3 fp3 e3 r3 f3 => q3 z H3 fp3 ((e1.trans e2).trans e3) r3 (f3.ex (e1.trans e2))) fun _ _ z => z) (hn d d2))
  · exact q.elim
theorem de_join {apos : Pos} (ha : DE X cm E false a fa) (hb : DE X cm E false c fb) (hs : starEach [c] X.env = [(false, eval c X.env)] := by rfl) (hbase : attributeBase a "join" X.env (eval a X.env) = eval a X.env := by rfl) (hline : (apos.endLine == pos.line) = true := by rfl) :
    DE X cm E b (.Call (.Attribute a "join" apos) [c] [] pos) (c2S gJoin fa fb) :=
  de_m1 (te := fun x _ => x) (fun ta tb h1 h3 => pe_join h1 h3 hs hbase hline) (fun W H x y dx dy w rx ry Q hp => (o_join rx ry hp).2) noEx_join ha hb
def x2S (gg : D → D → Out D) (f h : FX) : FX := fun r => (f r).bind fun p => if isStrB p.1 = true then (h p.2).bind fun q => (gg (frz p.1) (frz q.1)).bind fun d => .ok (d, q.2) else .bad
theorem xe_m1 {f h : FX} {r : V → List V → Hp → VK → Prop} {g : D → D → Out D} (hpe : ∀ ta tb, PE X a ta → PE X c tb → PE X e (tM1 r ta tb)) (ho : ∀ W H x y dx dy, WOk cm W H → Rep cm W H x dx [] → Rep cm W H y dy [] → ∀ Q : VK, Post (g dx dy) (QP cm W true H Q) noX → r x [y] H Q) (hn : NoEx g) (ha : XE X cm E a f) (hb : XE X cm E c h) : XE X cm E e (x2S g f h) := by
  obtain ⟨ta, h1, h2⟩ := ha.ex
  obtain ⟨tb, h3, h4⟩ := hb.ex
  refine ⟨_, hpe ta tb h1 h3, fun W0 H σ r fps gd Q hp => h2 W0 H σ r fps gd _ (hp.bind.mono (fun p q v H1 f1 p1 g1 k1 n1 w1 m1 => ?_) fun _ _ z => z)⟩
  split at q
  · rename_i hs
    refine ⟨k1.isStr hs, h4 (Wp W0 p1) H1 σ p.2 f1 g1 _ (q.bind.mono (fun p' q' u H2 f2 p2 g2 k2 n2 w2 m2 => ?_) fun x rr z => XX.later m1 z)⟩
    obtain ⟨z1, z2, z3, z4, z5⟩ := two g1 k1 n1 w1 m1 g2 (Reps.one k2) n2 w2 m2
    have o2 := z2.open z1 z4 fun _ m => m
    obtain ⟨a', e1, e2⟩ := o2.at rfl (i := 0) (d := frz p.1) rfl
    obtain ⟨b', e3, e4⟩ := o2.at rfl (i := 1) (d := frz p'.1) rfl
    cases e1; cases e3
    exact ho (Wof W0 f2) H2 v u _ _ z1.drop.wof e2 e4 Q (opened z1 z5 q' (hn _ _))
  · exact q.elim
theorem xe_join {f h : FX} {apos : Pos} (ha : XE X cm E a f) (hb : XE X cm E c h) (hs : starEach [c] X.env = [(false, eval c X.env)] := by rfl) (hbase : attributeBase a "join" X.env (eval a X.env) = eval a X.env := by rfl) (hline : (apos.endLine == pos.line) = true := by rfl) :
    XE X cm E (.Call (.Attribute a "join" apos) [c] [] pos) (x2S gJoin f h) :=
  xe_m1 (fun ta tb h1 h3 => pe_join h1 h3 hs hbase hline) (fun W H x y dx dy w rx ry Q hp => (o_join rx ry hp).2) noEx_join ha hb

/-! ### all, any, list(..), int(..), max, min -/
def blsD : List D → Option (List Bool)
  | [] => some []
  | .bl x :: ds => (blsD ds).map (x :: ·)
  | _ => none
theorem blsD_reps {W : Addr → Prop} {H : Hp} : ∀ {vs : List V} {ds : List D} {fp : List Addr}, Reps cm W H vs ds fp → ∀ {xs : List Bool}, blsD ds = some xs → vs = xs.map V.bl
  | _, _, _, .nil, xs, h => by cases h; rfl
  | _, _, _, .cons (d := d) r rs, xs, h => by
    cases d <;> first | (cases h; done) | skip
    obtain ⟨ys, h1, rfl⟩ := Option.map_eq_some_iff.mp h
    cases r
    rw [blsD_reps rs h1]
    rfl
def gAll : D → Out D
  | .lst _ ds => match blsD ds with
    | some xs => .ok (.bl (xs.all id))
    | none => .bad
  | _ => .bad
def gAny : D → Out D
  | .lst _ ds => match blsD ds with
    | some xs => .ok (.bl (xs.any id))
    | none => .bad
  | _ => .bad
theorem de_all {fs : Env → Out (List D)} (hc : X.calm = true) (hg : Gl X "all") (hm : X.mg "all" = none) (ha : DA X cm E false [a] fs) (he : starEach [a] X.env = (false, eval a X.env) :: starEach [] X.env := by rfl) (hpl : (backTo pos (starEach [] X.env)).any (·.1) = false := by rfl) : DE X cm E b (.Call (.Name "all" p) [a] [] pos) (cA (g1 gAll) fs) :=
  de_blt (cr_all hc) (ra_1 fun W H v d w rp Q hp => by
    unfold gAll at hp
    split at hp
    · split at hp
      · rename_i xs hx
        generalize hf : ([] : List Addr) = fp at rp
        cases rp with
        | lstO => cases hf
        | lstF h n r =>
          have e := blsD_reps r hx
          subst e
          exact ⟨_, _, rfl, SqL.of h, hp _ H [] (Ex.refl H) (.bl _) FpN.nil⟩
      · exact hp.elim
    · exact hp.elim) (noEx_g1 fun a x r h => by
      unfold gAll at h
      split at h
      · split at h <;> cases h
      · cases h) hg hm (by decide +kernel) ha (by decide) (by decide) he hpl
theorem de_any {fs : Env → Out (List D)} (hc : X.calm = true) (hg : Gl X "any") (hm : X.mg "any" = none) (ha : DA X cm E false [a] fs) (he : starEach [a] X.env = (false, eval a X.env) :: starEach [] X.env := by rfl) (hpl : (backTo pos (starEach [] X.env)).any (·.1) = false := by rfl) : DE X cm E b (.Call (.Name "any" p) [a] [] pos) (cA (g1 gAny) fs) :=
  de_blt (cr_any hc) (ra_1 fun W H v d w rp Q hp => by
    unfold gAny at hp
    split at hp
    · split at hp
      · rename_i xs hx
        generalize hf : ([] : List Addr) = fp at rp
        cases rp with
        | lstO => cases hf
        | lstF h n r =>
          have e := blsD_reps r hx
          subst e
          exact ⟨_, _, rfl, SqL.of h, hp _ H [] (Ex.refl H) (.bl _) FpN.nil⟩
      · exact hp.elim
    · exact hp.elim) (noEx_g1 fun a x r h => by
      unfold gAny at h
      split at h
      · split at h <;> cases h
      · cases h) hg hm (by decide +kernel) ha (by decide) (by decide) he hpl
/-- list of a text -/
theorem call_list_strL (hc : X.calm = true) : CallR X (.type "list") (fun xs H Q => ∃ z : Str, xs = [.str z] ∧ z.length ≤ sizeLine ∧ ∀ l, H l = none → Q (.ref l) (upd H l (.lst (z.cps.toList.map fun c => V.str ⟨#[c]⟩)))) := by
  intro pins s σ H xs us Q I r h
  obtain ⟨z, rfl, hz, q⟩ := h
  obtain ⟨u, rfl, t, rfl⟩ := vals1 r
  refine PySem.call_list_str (I.ok.hd hc) z t (hn := hz) fun h' tk acc' c' hk hS' hacc => ?_
  have hv : Vals (z.cps.toList.map fun c => V.str ⟨#[c]⟩) acc'.toList := by
    have gen : ∀ (cs : List Nat) (vs : List Value), cs.length = vs.length → (∀ (j : Nat) v, vs[j]? = some v → ∃ c u, cs[j]? = some c ∧ v = .str ⟨#[c]⟩ u) → Vals (cs.map fun c => V.str ⟨#[c]⟩) vs := by
      intro cs
      induction cs with
      | nil =>
        intro vs hl _
        cases vs with
        | nil => exact .nil
        | cons a b => cases hl
      | cons c cs ih =>
        intro vs hl hh
        cases vs with
        | nil => cases hl
        | cons v vs =>
          obtain ⟨c', u, e1, rfl⟩ := hh 0 v rfl
          cases e1
          exact .cons ⟨_, rfl⟩ (ih vs (by simpa using hl) fun j w hw => hh (j + 1) w hw)
    refine gen _ _ (by simp [hacc.1]) fun j v hj => ?_
    obtain ⟨c, u, h1, h2⟩ := hacc.2 j v (by simpa using hj)
    exact ⟨c, u, by simpa using h1, h2⟩
  have hl : (z.cps.toList.map fun c => V.str ⟨#[c]⟩).length ≤ sizeLine := by rw [List.length_map]; exact hz
  refine ⟨.ref s.heap.objs.size, _, I.laid (t' := tk) hk (Nat.le_refl _) (show ObjOk X.prog X.w _ h' _ (.lst _) from ⟨hl, acc'.toList, c', hv, by rw [hS']⟩), rfl, q _ (I.hok.fresh (Nat.le_refl _))⟩
def gList : D → Out D
  | .lst _ xs => .ok (.lst true xs)
  | .tup xs => .ok (.lst true xs)
  | .str cs => if cs.length ≤ 1000000 then .ok (.lst true (cs.map fun c => .str [c])) else .bad
  | _ => .bad
theorem reps_signs {W : Addr → Prop} {H : Hp} : ∀ cs : List Nat, Reps cm W H (cs.map fun c => V.str ⟨#[c]⟩) (cs.map fun c => D.str [c]) []
  | [] => .nil
  | c :: cs => .cons (fp := []) (.str [c]) (reps_signs cs)
theorem ra_list : RA cm true (fun xs H Q => (∃ p ys, xs = [V.ref p] ∧ (SqL X.K H p ys ∨ SqT X.K H p ys) ∧ ∀ l, H l = none → Q (.ref l) (upd H l (.lst ys))) ∨ ∃ z : Str, xs = [.str z] ∧ z.length ≤ sizeLine ∧ ∀ l, H l = none → Q (.ref l) (upd H l (.lst (z.cps.toList.map fun c => V.str ⟨#[c]⟩)))) (g1 gList) := ra_1 fun W H v d w rp Q hp => by
  unfold gList at hp
  split at hp
  · generalize hf : ([] : List Addr) = fp at rp
    cases rp with
    | lstO => cases hf
    | lstF h n r => exact .inl ⟨_, _, rfl, .inl (SqL.of h), fun l hl => hp (.ref l) _ [l] (Ex.new hl) (.lstO (fp := []) upd_same (r.newW hl)) (fpN_new hl)⟩
  · generalize hf : ([] : List Addr) = fp at rp
    cases rp with
    | tup h n r =>
      subst hf
      exact .inl ⟨_, _, rfl, .inr (SqT.of h), fun l hl => hp (.ref l) _ [l] (Ex.new hl) (.lstO (fp := []) upd_same (r.newW hl)) (fpN_new hl)⟩
  · split at hp
    · cases rp
      rename_i hz
      refine .inr ⟨_, rfl, by rw [strLen]; exact line6 hz, fun l hl => hp (.ref l) _ [l] (Ex.new hl) (.lstO (fp := []) upd_same ?_) (fpN_new hl)⟩
      exact reps_signs _
    · exact hp.elim
  · exact hp.elim
theorem de_list {fs : Env → Out (List D)} (hc : X.calm = true) (hg : Gl X "list") (hm : X.mg "list" = none) (ha : DA X cm E false [a] fs) (he : starEach [a] X.env = (false, eval a X.env) :: starEach [] X.env := by rfl) (hpl : (backTo pos (starEach [] X.env)).any (·.1) = false := by rfl) : DE X cm E true (.Call (.Name "list" p) [a] [] pos) (cA (g1 gList) fs) :=
  de_ty (call_list_of.or (call_list_strL hc)) ra_list (noEx_g1 fun a x r h => by
    unfold gList at h
    split at h
    · cases h
    · cases h
    · split at h <;> cases h
    · cases h) hg hm (by decide +kernel) ha (by decide) (by decide) he hpl
def gInt : D → Out D
  | .int i => .ok (.int i)
  | .bl k => .ok (.int (if k then 1 else 0))
  | _ => .bad
theorem de_intc {fs : Env → Out (List D)} (hg : Gl X "int") (hm : X.mg "int" = none) (ha : DA X cm E false [a] fs) (he : starEach [a] X.env = (false, eval a X.env) :: starEach [] X.env := by rfl) (hpl : (backTo pos (starEach [] X.env)).any (·.1) = false := by rfl) : DE X cm E b (.Call (.Name "int" p) [a] [] pos) (cA (g1 gInt) fs) :=
  de_ty call_int1 (ra_1 fun W H v d w rp Q hp => by
    unfold gInt at hp
    split at hp
    · cases rp; exact .inl ⟨_, rfl, hp _ H [] (Ex.refl H) (.int _) FpN.nil⟩
    · cases rp; exact .inr ⟨_, rfl, hp _ H [] (Ex.refl H) (.int _) FpN.nil⟩
    · exact hp.elim) (noEx_g1 fun a x r h => by
    unfold gInt at h
    split at h <;> cases h) hg hm (by decide +kernel) ha (by decide) (by decide) he hpl
def gMx : List D → Out D
  | [.int i, .int j] => .ok (.int (if j > i then j else i))
  | _ => .bad
def gMn : List D → Out D
  | [.int i, .int j] => .ok (.int (if j < i then j else i))
  | _ => .bad
theorem de_max2 {fs : Env → Out (List D)} (hc : X.calm = true) (hg : Gl X "max") (hm : X.mg "max" = none) (ha : DA X cm E false [a, c] fs) (he : starEach [a, c] X.env = (false, eval a X.env) :: starEach [c] X.env := by rfl) (hpl : (backTo pos (starEach [c] X.env)).any (·.1) = false := by rfl) : DE X cm E b (.Call (.Name "max" p) [a, c] [] pos) (cA gMx fs) :=
  de_blt (call_max2 hc) (fun W H vs ds w rp Q hp => by
    unfold gMx at hp
    split at hp
    · generalize hf : ([] : List Addr) = fp at rp
      cases rp with
      | cons k1 k2 =>
        cases k1
        cases k2 with
        | cons k2 k3 =>
          cases k2; cases k3
          exact ⟨_, _, rfl, hp _ H [] (Ex.refl H) (.int _) FpN.nil⟩
    · exact hp.elim) (fun a x r h => by
    unfold gMx at h
    split at h <;> cases h) hg hm (by decide +kernel) ha (by decide) (by decide) he hpl
theorem de_min2 {fs : Env → Out (List D)} (hc : X.calm = true) (hg : Gl X "min") (hm : X.mg "min" = none) (ha : DA X cm E false [a, c] fs) (he : starEach [a, c] X.env = (false, eval a X.env) :: starEach [c] X.env := by rfl) (hpl : (backTo pos (starEach [c] X.env)).any (·.1) = false := by rfl) : DE X cm E b (.Call (.Name "min" p) [a, c] [] pos) (cA gMn fs) :=
  de_blt (call_min2 hc) (fun W H vs ds w rp Q hp => by
    unfold gMn at hp
    split at hp
    · generalize hf : ([] : List Addr) = fp at rp
      cases rp with
      | cons k1 k2 =>
        cases k1
        cases k2 with
        | cons k2 k3 =>
          cases k2; cases k3
          exact ⟨_, _, rfl, hp _ H [] (Ex.refl H) (.int _) FpN.nil⟩
    · exact hp.elim) (fun a x r h => by
    unfold gMn at h
    split at h <;> cases h) hg hm (by decide +kernel) ha (by decide) (by decide) he hpl
end
end DL

namespace DL
variable [Tbs]
open PySem L2
section
variable {X : Cx} {cm : Cm} {E : XS} {b : Bool} {pos p : Pos} {ks : Nat → Bool} {a c e tg : Expr} {es : List Expr} {f h : FX} {g : FS}
/-! ### tests with effects -/
def xTB (f : FX) : Env → Out (Bool × Env) := fun r => (f r).bind fun p => (isB p.1).bind fun k => .ok (k, p.2)
def xAnd (s t : Env → Out (Bool × Env)) : Env → Out (Bool × Env) := fun r => (s r).bind fun p => if p.1 = true then t p.2 else .ok (false, p.2)
def xOr (s t : Env → Out (Bool × Env)) : Env → Out (Bool × Env) := fun r => (s r).bind fun p => if p.1 = true then .ok (true, p.2) else t p.2
def xNot (s : Env → Out (Bool × Env)) : Env → Out (Bool × Env) := fun r => (s r).bind fun p => .ok (!p.1, p.2)
theorem xtB_con {te : TE} (h2 : ∀ W0 H σ r fps, Good cm W0 H σ r fps → ∀ Q, Post (f r) (QX cm W0 H σ fps Q) (XX cm E W0 H σ fps) → te σ H Q) : ∀ W0 H σ r fps, Good cm W0 H σ r fps → ∀ Q, Post (xTB f r) (QXT cm W0 H σ fps Q) (XX cm E W0 H σ fps) → te σ H fun x H1 => ∃ k, x = .bl k ∧ Q k H1 := fun W0 H σ r fps gd Q hp =>
  h2 W0 H σ r fps gd _ (hp.bind.mono (fun p q v H1 f1 p1 g1 k1 n1 w1 m1 => by
    obtain ⟨d, r'⟩ := p
    cases d <;> first | exact q.elim | skip
    cases k1
    exact ⟨_, rfl, q H1 f1 g1.drop (m1.addv fun _ m => (nomatch m))⟩) fun _ _ z => z)
theorem xt_B (h1 : XE X cm E e f) (he : ∀ whole, isTrue e X.env whole = (do let v ← whole; standAt e.pos; holding [v] (truthy v)) := by intro _; rfl) : XT X cm E e (xTB f) := by
  obtain ⟨te, a1, a2⟩ := h1.ex
  exact ⟨_, pt_val a1 he, xtB_con a2⟩
theorem xt_cmp {op : CmpOp} {rr : R2} {gg : D → D → Out D} {fa fb : FX} (hr : OpR X (compareOp op) rr) (ho : Op2' cm true rr gg) (hn : NoEx gg) (hm : behindInMarks op c = false) (ha : XE X cm E a fa) (hb : XE X cm E c fb) : XT X cm E (.Compare a [op] [c] pos) (xTB (x2 gg fa fb)) := by
  obtain ⟨ta, h1, h2⟩ := ha.ex
  obtain ⟨tb, h3, h4⟩ := hb.ex
  exact ⟨_, pt_cmpR hr h1 h3 hm, xtB_con (xcon2 ho hn h2 h4)⟩
theorem xt_not {s : Env → Out (Bool × Env)} (h1 : XT X cm E e s) : XT X cm E (.UnaryOp .Not e pos) (xNot s) := by
  obtain ⟨te, a1, a2⟩ := h1.ex
  exact ⟨_, pt_not a1, fun W0 H σ r fps gd Q hp => a2 W0 H σ r fps gd _ (hp.bind.mono (fun p q H1 f1 g1 m1 => q H1 f1 g1 m1) fun _ _ z => z)⟩
theorem XW.xt {s : Env → Out (Bool × Env)} (h : XW X cm E e s) : XT X cm E e s := by
  obtain ⟨te, h1, h2⟩ := h.ex
  exact ⟨te, h1.pt, h2⟩
theorem xw_and1 {s : Env → Out (Bool × Env)} (h : XT X cm E a s) : XW X cm E (.BoolOp .And [a] pos) s := by
  obtain ⟨te, h1, h2⟩ := h.ex
  exact ⟨_, pw_and1 h1, h2⟩
theorem xw_or1 {s : Env → Out (Bool × Env)} (h : XT X cm E a s) : XW X cm E (.BoolOp .Or [a] pos) s := by
  obtain ⟨te, h1, h2⟩ := h.ex
  exact ⟨_, pw_or1 h1, h2⟩
theorem QXT.later {W0 : Addr → Prop} {H H1 : Hp} {σ : St} {fps f1 : Fps} {Q : Bool → Hp → Prop} {o : Out (Bool × Env)} (m1 : Fram H fps H1 f1 []) (h : Post o (QXT cm W0 H σ fps Q) (XX cm E W0 H σ fps)) : Post o (QXT cm W0 H1 σ f1 Q) (XX cm E W0 H1 σ f1) :=
  h.mono (fun p q H2 f2 g2 m2 => q H2 f2 g2 (m1.trans m2)) fun x rr z H2 f2 dx g2 m2 xr => z H2 f2 dx g2 (m1.trans m2) xr
theorem xw_and {rest : List Expr} {s t : Env → Out (Bool × Env)} (h : XT X cm E a s) (k : XW X cm E (.BoolOp .And (c :: rest) pos) t) : XW X cm E (.BoolOp .And (a :: c :: rest) pos) (xAnd s t) := by
  obtain ⟨te, h1, h2⟩ := h.ex
  obtain ⟨tf, k1, k2⟩ := k.ex
  refine ⟨_, pw_and h1 k1, fun W0 H σ r fps gd Q hp => h2 W0 H σ r fps gd _ (hp.bind.mono (fun p q H1 f1 g1 m1 => ?_) fun _ _ z => z)⟩
  obtain ⟨bb, r'⟩ := p
  cases bb with
  | true => exact k2 W0 H1 σ r' f1 g1 Q (QXT.later m1 q)
  | false => exact q H1 f1 g1 m1
theorem xw_or {rest : List Expr} {s t : Env → Out (Bool × Env)} (h : XT X cm E a s) (k : XW X cm E (.BoolOp .Or (c :: rest) pos) t) : XW X cm E (.BoolOp .Or (a :: c :: rest) pos) (xOr s t) := by
  obtain ⟨te, h1, h2⟩ := h.ex
  obtain ⟨tf, k1, k2⟩ := k.ex
  refine ⟨_, pw_or h1 k1, fun W0 H σ r fps gd Q hp => h2 W0 H σ r fps gd _ (hp.bind.mono (fun p q H1 f1 g1 m1 => ?_) fun _ _ z => z)⟩
  obtain ⟨bb, r'⟩ := p
  cases bb with
  | true => exact q H1 f1 g1 m1
  | false => exact k2 W0 H1 σ r' f1 g1 Q (QXT.later m1 q)
/-! ### while -/
theorem ds_while {body : List Stmt} {t : Env → Out (Bool × Env)} (n : Nat) (hp' : PassesOwn (model X.prog X.w) X.A X.env X.xe) (hc : XT X cm E c t) (hb : DSs X cm E ks body g) : DS X cm E ks (.While c body [] pos) (whileS t g n) := by
  obtain ⟨tt, t1, t2⟩ := hc.ex
  obtain ⟨tb, b1, b2⟩ := hb.ex
  refine ⟨_, ps_while hp' t1 b1, fun W0 H σ r fps gd D hp => ?_⟩
  refine ⟨fun m σ' H' => ∃ r' f', Good cm W0 H' σ' r' f' ∧ Fram H fps H' f' [] ∧ Keep ks σ σ' ∧ SPost cm E W0 H σ fps ks D (whileS t g m r'), ⟨n, r, fps, gd, Fram.refl _ _, Keep.refl ks σ, hp⟩, ?_⟩
  rintro m σ' H' ⟨r', f', g', fm', k', hq⟩
  cases m with
  | zero => exact hq.elim
  | succ m =>
    refine t2 W0 H' σ' r' f' g' _ ?_
    unfold whileS at hq
    split at hq
    · rename_i pp hr
      rw [hr]
      obtain ⟨bb, r1⟩ := pp
      intro H1 f1 g1 m1
      have fm1 := fm'.trans m1
      cases bb with
      | false => exact hq σ' H1 f1 g1 fm1 k'
      | true =>
        refine ⟨fun σ5 H5 => ∃ r' f', Good cm W0 H5 σ5 r' f' ∧ Fram H fps H5 f' [] ∧ Keep ks σ σ5 ∧ SPost cm E W0 H σ fps ks D (whileS t g m r'), fun σ5 H5 h5 => ⟨m, Nat.lt_succ_self m, h5⟩, ?_⟩
        refine b2 W0 H1 σ' r1 f1 g1 _ ?_
        simp only [if_true] at hq
        cases hb : g r1 with
        | nx r4 =>
          rw [hb] at hq
          exact fun σ4 H4 f4 g4 fm4 k4 => ⟨r4, f4, g4, fm1.trans fm4, k'.trans k4, hq⟩
        | ct r4 =>
          rw [hb] at hq
          exact fun σ4 H4 f4 g4 fm4 k4 => ⟨r4, f4, g4, fm1.trans fm4, k'.trans k4, hq⟩
        | bk r4 =>
          rw [hb] at hq
          exact fun σ4 H4 f4 g4 fm4 k4 => hq σ4 H4 f4 g4 (fm1.trans fm4) (k'.trans k4)
        | rt d4 r4 =>
          rw [hb] at hq
          exact fun v σ4 H4 f4 p4 g4 rp nd nw fm4 k4 => hq v σ4 H4 f4 p4 g4 rp nd nw (fm1.trans fm4) (k'.trans k4)
        | exn x4 r4 =>
          rw [hb] at hq
          exact fun σ4 H4 f4 dx g4 fm4 k4 xr => hq σ4 H4 f4 dx g4 (fm1.trans fm4) (k'.trans k4) xr
        | bad => rw [hb] at hq; exact hq.elim
    · rename_i x r2 hr
      rw [hr]
      exact fun H1 fps' dx g1 fm xr => hq σ' H1 fps' dx g1 (fm'.trans fm) k' xr
    · exact hq.elim
/-! ### a list in a slot, changed -/
/-- the node in slot i is changed: its items are now vs', held as ds' with the own nodes fp' (old ones, and fpv) -/
theorem Good.mut {W0 : Addr → Prop} {H : Hp} {σ : St} {r : Env} {fps : Fps} {i : Nat} {pa : Addr} {vs' : List V} {ds' : List D} {fp' fpv : List Addr} (g : Good cm (Wp W0 fpv) H σ r fps) (hv : σ[i]? = some (some (.ref pa))) (hp : ∃ vs, H pa = some (.lst vs)) (hpa : pa ∈ fps i) (hrp : Reps cm (Wof (Wp W0 fpv) fps) H vs' ds' fp') (hsub : ∀ a ∈ fp', a ∈ fps i ∨ a ∈ fpv) (hnp : pa ∉ fp') (nd : fp'.Nodup) (nw : ∀ a ∈ fpv, ¬ W0 a) :
    Good cm W0 (upd H pa (.lst vs')) σ (r.set i (some (.lst true ds'))) (fun j => if j = i then pa :: fp' else fps j) := by
  have sub : ∀ {j a}, a ∈ (if j = i then pa :: fp' else fps j) → (j = i ∧ (a = pa ∨ a ∈ fp')) ∨ (j ≠ i ∧ a ∈ fps j) := fun {j a} m => by
    split at m
    · exact .inl ⟨by assumption, List.mem_cons.mp m⟩
    · exact .inr ⟨by assumption, m⟩
  have own : ∀ {j a}, a ∈ (if j = i then pa :: fp' else fps j) → Wof (Wp W0 fpv) fps a := fun {j a} m => by
    rcases sub m with ⟨_, rfl | m⟩ | ⟨_, m⟩
    · exact .inr ⟨i, hpa⟩
    · exact (hsub a m).elim (fun m => .inr ⟨i, m⟩) fun m => .inl (.inr m)
    · exact .inr ⟨j, m⟩
  have wsub : ∀ a, Wof W0 (fun j => if j = i then pa :: fp' else fps j) a → Wof (Wp W0 fpv) fps a := fun a z => by
    rcases z with z | ⟨j, m⟩
    · exact .inl (.inl z)
    · exact own m
  have mut' : ∀ a, MutAt H a → MutAt (upd H pa (.lst vs')) a := fun a ⟨o, h1, h2⟩ => by
    by_cases e : a = pa
    · subst e; exact ⟨_, upd_same, rfl⟩
    · exact ⟨o, by rw [upd_ne e]; exact h1, h2⟩
  have nother : ∀ j a, j ≠ i → a ∈ fps j → a ≠ pa ∧ a ∉ fp' := fun j a hj m => ⟨fun z => hj (g.dj j i a m (z ▸ hpa)), fun z => (hsub a z).elim (fun z => hj (g.dj j i a m z)) fun z => g.nw j a m (.inr z)⟩
  refine ⟨by rw [List.length_set]; exact g.len, ⟨fun a z => mut' a (g.w0.1 a (.inl z)), Tabs.updM g.w0.2 (g.mu i pa hpa)⟩, fun j d hj => ?_, fun j => ?_, fun j j' a m m' => ?_, fun j a m z => ?_, fun j a m => ?_⟩
  · rw [List.getElem?_set] at hj
    by_cases e : i = j
    · subst e
      rw [if_pos rfl] at hj
      split at hj
      · cases hj
        rw [if_pos rfl]
        refine ⟨_, hv, .lstO upd_same (hrp.move (fun a z => .inl (wsub a z)) fun a o q _ cc => ?_)⟩
        rw [upd_ne]
        · exact q
        · rcases cc with cc | cc
          · exact fun z => cc (.inr ⟨i, z ▸ hpa⟩)
          · exact fun z => hnp (z ▸ cc)
      · cases hj
    · rw [if_neg e] at hj
      rw [if_neg (Ne.symm e)]
      obtain ⟨u, e1, e2⟩ := g.sl j d hj
      refine ⟨u, e1, e2.move (fun a z => .inl (wsub a z)) fun a o q _ cc => ?_⟩
      rw [upd_ne]
      · exact q
      · rcases cc with cc | cc
        · exact fun z => cc (.inr ⟨i, z ▸ hpa⟩)
        · exact (nother j a (Ne.symm e) cc).1
  · split
    · exact List.nodup_cons.mpr ⟨hnp, nd⟩
    · exact g.nd j
  · rcases sub m with ⟨e, m⟩ | ⟨e, m⟩ <;> rcases sub m' with ⟨e', m'⟩ | ⟨e', m'⟩
    · rw [e, e']
    · rcases m with m | m
      · exact absurd m (nother j' a e' m').1
      · exact absurd m (nother j' a e' m').2
    · rcases m' with m' | m'
      · exact absurd m' (nother j a e m).1
      · exact absurd m' (nother j a e m).2
    · exact g.dj j j' a m m'
  · rcases sub m with ⟨_, rfl | m⟩ | ⟨_, m⟩
    · exact g.nw i _ hpa (.inl z)
    · exact (hsub a m).elim (fun m => g.nw i a m (.inl z)) fun m => nw a m z
    · exact g.nw j a m (.inl z)
  · exact mut' a (g.wof.1 a (own m))
theorem Fram.mut {H H1 : Hp} {fps f1 : Fps} {i : Nat} {pa : Addr} {o : HO} {fp' fpv : List Addr} (fm : Fram H fps H1 f1 fpv) (hpa : pa ∈ f1 i) (hh : MutAt H1 pa) (hsub : ∀ a ∈ fp', a ∈ f1 i ∨ a ∈ fpv) : Fram H fps (upd H1 pa o) (fun j => if j = i then pa :: fp' else f1 j) [] where
  tb := fun h => Tabs.updM (fm.tb h) hh
  keep := fun a u q n t => by
    rw [upd_ne]
    · exact fm.keep a u q n t
    · intro z
      subst z
      rcases fm.old i _ hpa with ⟨j, m⟩ | z
      · exact n j m
      · rw [q] at z; cases z
  old := fun j a m => by
    split at m
    · rcases List.mem_cons.mp m with rfl | m
      · exact fm.old i _ hpa
      · exact (hsub a m).elim (fm.old i a) (fm.oldv a)
    · exact fm.old j a m
  oldv := fun _ m => (nomatch m)
  back := fun a q => by
    by_cases e : a = pa
    · subst e; rw [upd_same] at q; cases q
    · rw [upd_ne e] at q; exact fm.back a q
theorem Rep.lstOf {W : Addr → Prop} {H : Hp} {v : V} {ds : List D} {fp : List Addr} (h : Rep cm W H v (.lst true ds) fp) : ∃ pa vs fp', v = .ref pa ∧ H pa = some (.lst vs) ∧ fp = pa :: fp' ∧ Reps cm W H vs ds fp' := by
  cases h with
  | lstO h r => exact ⟨_, _, _, rfl, h, rfl, r⟩
/-- x.append(e), x in slot i -/
def sApp (i : Nat) (f : FX) : FX := fun r => match r[i]? with
  | some (some (.lst true _)) => (f r).bind fun p => match p.2[i]? with
    | some (some (.lst true ds)) => if ds.length < 1000000 then .ok (.non, p.2.set i (some (.lst true (ds ++ [p.1])))) else .bad
    | _ => .bad
  | _ => .bad
theorem xe_app (i : Nat) {apos : Pos} (hv : PE X a (tVar i)) (h1 : XE X cm E e f) (hbase : attributeBase a "append" X.env (eval a X.env) = eval a X.env := by rfl)
    (hfew : ((backTo pos (starEach [e] X.env)).all (fun x => !x.1) && (backToKw pos (keywordEach [] X.env)).all (fun x => x.1.isSome) && decide ([e].length + ([] : List Keyword).length + (if ([] : List Keyword).isEmpty then 0 else 1) < 30)) = true := by rfl)
    (hline : (apos.endLine == pos.line) = true := by rfl) (hs : starEach [e] X.env = (false, eval e X.env) :: starEach [] X.env := by rfl) (hplain : (backTo pos (starEach [] X.env)).any (·.1) = false := by rfl) :
    XE X cm E (.Call (.Attribute a "append" apos) [e] [] pos) (sApp i f) := by
  obtain ⟨te, a1, a2⟩ := h1.ex
  refine ⟨_, pe_bm PySem.F.plainAttrs_list PySem.F.slot_list_append PySem.F.type_list_append mt_append hv (pa_cons a1 pa_nil hs) hbase hfew hline hs hplain, fun W0 H σ r fps gd Q hp => ?_⟩
  unfold sApp at hp
  split at hp
  · rename_i ds0 hd0
    obtain ⟨v0, q1, q2⟩ := gd.sl i _ hd0
    obtain ⟨pa, vs0, fp0, rfl, hpa0, hfp0, _⟩ := q2.lstOf
    refine ⟨_, q1, .inl ⟨rfl, _, SqL.of hpa0⟩, ?_⟩
    refine a2 W0 H σ r fps gd _ (hp.bind.mono (fun pp q v H1 f1 p1 g1 k1 n1 w1 m1 => ?_) fun _ _ z => z)
    split at q
    · rename_i ds hd
      split at q
      · rename_i hl
        obtain ⟨v1, e1, e2⟩ := g1.sl i _ hd
        rw [q1] at e1
        cases e1
        obtain ⟨pa', vs, fp, e3, hpa, hfp, hr⟩ := e2.lstOf
        cases e3
        refine ⟨pa, vs, v, rfl, rfl, hpa, Nat.lt_of_lt_of_le (show vs.length < 1000000 by rw [hr.len]; exact hl) (by decide), ?_⟩
        have hmem : pa ∈ f1 i := by rw [hfp]; exact List.mem_cons_self ..
        have hsub : ∀ a ∈ fp ++ p1, a ∈ f1 i ∨ a ∈ p1 := fun a m => by
          rcases List.mem_append.mp m with m | m
          · exact .inl (by rw [hfp]; exact List.mem_cons_of_mem _ m)
          · exact .inr m
        have nd1 := g1.nd i
        rw [hfp] at nd1
        have nd2 := List.nodup_cons.mp nd1
        have hnp : pa ∉ fp ++ p1 := fun m => by
          rcases List.mem_append.mp m with m | m
          · exact nd2.1 m
          · exact g1.nw i pa hmem (.inr m)
        have hnd : (fp ++ p1).Nodup := List.nodup_append.mpr ⟨nd2.2, n1, fun a m c m' z => g1.nw i a (by rw [hfp]; exact List.mem_cons_of_mem _ m) (.inr (z ▸ m'))⟩
        have hrs : Reps cm (Wof (Wp W0 p1) f1) H1 (vs ++ [v]) (ds ++ [pp.1]) (fp ++ p1) := Reps.app hr (Reps.one k1)
        have g2 := g1.mut q1 ⟨_, hpa⟩ hmem hrs hsub hnp hnd w1
        exact q .non _ _ [] (by rw [wp_nil]; exact g2) .non List.nodup_nil (fun _ m => (nomatch m)) (m1.mut hmem ⟨_, hpa, rfl⟩ hsub)
      · exact q.elim
    · exact q.elim
  · exact hp.elim
/-- x[k] = e, x in slot i: the value becomes shared -/
def sPut (i : Nat) (f : FX) (fk : FX) : FS := fun r => match f r with
  | .ok p => match p.2[i]? with
    | some (some _) => match fk p.2 with
      | .ok q => match q.1, q.2[i]? with
        | .int k, some (some (.lst true ds)) => match ixN ds.length k with
          | some j => .nx (q.2.set i (some (.lst true (ds.set j (frz p.1)))))
          | none => .bad
        | _, _ => .bad
      | .exn x r' => .exn x r'
      | .bad => .bad
    | _ => .bad
  | .exn x r' => .exn x r'
  | .bad => .bad
theorem Reps.set {W : Addr → Prop} {H : Hp} {v : V} {d : D} (rv : Rep cm W H v d []) : ∀ (j : Nat) {vs : List V} {ds : List D} {fp : List Addr}, Reps cm W H vs ds fp → ∃ fp', Reps cm W H (vs.set j v) (ds.set j d) fp' ∧ fp'.Sublist fp
  | _, _, _, _, .nil => ⟨[], .nil, List.Sublist.refl _⟩
  | 0, _, _, _, .cons (fp := f1) (fps := f2) h r => ⟨[] ++ f2, .cons rv r, List.sublist_append_right _ _⟩
  | j + 1, _, _, _, .cons (fp := f1) (fps := f2) h r => by
    obtain ⟨f', h1, h2⟩ := Reps.set rv j r
    exact ⟨f1 ++ f', .cons h h1, List.Sublist.append (List.Sublist.refl _) h2⟩
theorem ds_put (i : Nat) {o k : Expr} {fk : FX} {tpos : Pos} (hv : PE X o (tVar i)) (h1 : XE X cm E e f) (hk : XE X cm E k fk) (hps : ∀ te ti, PE X e te → PE X k ti → PS X (.Assign [.Subscript o k tpos] e pos) (tAsg te (gSub (tVar i) ti rSetL))) : DS X cm E ks (.Assign [.Subscript o k tpos] e pos) (sPut i f fk) := by
  obtain ⟨te, a1, a2⟩ := h1.ex
  obtain ⟨ti, b1, b2⟩ := hk.ex
  refine ⟨_, hps te ti a1 b1, fun W0 H σ r fps gd D hp => a2 W0 H σ r fps gd _ ?_⟩
  unfold sPut at hp
  split at hp
  · rename_i pp hr
    rw [hr]
    intro v H1 f1 p1 g1 k1 n1 w1 m1
    split at hp
    · rename_i d0 hd0
      obtain ⟨v0, q1, q2⟩ := g1.sl i d0 hd0
      refine ⟨v0, q1, b2 (Wp W0 p1) H1 σ pp.2 f1 g1 _ ?_⟩
      split at hp
      · rename_i qq hq
        rw [hq]
        intro u H2 f2 p2 g2 k2 n2 w2 m2
        split at hp
        · rename_i kk ds hk1 hk2
          split at hp
          · rename_i j hj
            rw [hk1] at k2
            cases k2
            rw [wp_nil] at g2
            obtain ⟨v1, e1, e2⟩ := g2.sl i _ hk2
            rw [q1] at e1
            cases e1
            obtain ⟨pa, vs, fp, rfl, hpa, hfp, hrr⟩ := e2.lstOf
            refine ⟨pa, vs, kk, j, rfl, rfl, hpa, by rw [hrr.len]; exact hj, ?_⟩
            have kv : Rep cm (Wof (Wp W0 []) f2) H2 v (frz pp.1) [] := by
              have k1' := k1.over (fq := []) (fun i a m z => g1.nw i a m (.inr z)) m2
              rw [List.append_nil] at k1'
              rw [wp_nil]
              exact k1'.open g2 w1 fun _ m => m
            have g2' : Good cm (Wp W0 []) H2 σ qq.2 f2 := by rw [wp_nil]; exact g2.drop
            have hrr' : Reps cm (Wof (Wp W0 []) f2) H2 vs ds fp := hrr.move (fun a z => .inl (by rw [wp_nil] at z; exact z.imp .inl id)) fun _ _ q _ _ => q
            obtain ⟨fp', hs1, hs2⟩ := Reps.set kv j hrr'
            have hmem : pa ∈ f2 i := by rw [hfp]; exact List.mem_cons_self ..
            have hsub : ∀ a ∈ fp', a ∈ f2 i ∨ a ∈ ([] : List Addr) := fun a m => .inl (by rw [hfp]; exact List.mem_cons_of_mem _ (hs2.mem m))
            have nd1 := g2.nd i
            rw [hfp] at nd1
            have nd2 := List.nodup_cons.mp nd1
            have g3 := g2'.mut q1 ⟨_, hpa⟩ hmem hs1 hsub (fun m => nd2.1 (hs2.mem m)) (nd2.2.sublist hs2) (fun _ m => (nomatch m))
            exact hp σ _ _ g3 (((m1.trans m2).addv (v2 := []) fun _ m => (nomatch m)).mut hmem ⟨_, hpa, rfl⟩ hsub) (Keep.refl ks σ)
          · exact hp.elim
        · exact hp.elim
      · rename_i x r' hq
        rw [hq]
        exact fun H' fps' dx g' fm xr => hp σ H' fps' dx g'.drop ((m1.trans fm).addv fun _ m => (nomatch m)) (Keep.refl ks σ) (xr.weak fun a z => z.imp .inl id)
      · exact hp.elim
    · exact hp.elim
  · rename_i x r' hr
    rw [hr]
    exact fun H' fps' dx g' fm xr => hp σ H' fps' dx g' fm (Keep.refl ks σ) xr
  · exact hp.elim
end
end DL

namespace DL
variable [Tbs]
open PySem L2
def teX (cm : Cm) (E : XS) (f : FX) : TE := fun σ H Q => ∃ W0 r fps, Good cm W0 H σ r fps ∧ Post (f r) (QX cm W0 H σ fps Q) (XX cm E W0 H σ fps)
def ttX (cm : Cm) (E : XS) (f : Env → Out (Bool × Env)) : TT := fun σ H Q => ∃ W0 r fps, Good cm W0 H σ r fps ∧ Post (f r) (QXT cm W0 H σ fps Q) (XX cm E W0 H σ fps)
def tgX (cm : Cm) (ks : Nat → Bool) (g : D → Env → Out Env) : TG := fun v σ H Q => ∃ W0 r fps d, Good cm W0 H σ r fps ∧ Rep cm (Wof W0 fps) H v d [] ∧ Post (g d r) (fun r' => ∀ σ' fps', Good cm W0 H σ' r' fps' → (∀ j a, a ∈ fps' j → a ∈ fps j) → Keep ks σ σ' → Q σ' H) noX
section
variable {X : Cx} {cm : Cm} {E : XS} {b : Bool} {pos p : Pos} {ks : Nat → Bool} {a c e tg : Expr} {es : List Expr} {f h : FX} {g : FS}
theorem XE.pe (h : XE X cm E e f) : PE X e (teX cm E f) := by
  obtain ⟨te, h1, h2⟩ := h.ex
  exact ⟨fun pins s σ H Q I ⟨W0, r, fps, gd, hp⟩ => h1.run pins s σ H Q I (h2 W0 H σ r fps gd Q hp)⟩
theorem XG.pg {gg : D → Env → Out Env} (h : XG X cm ks tg gg) : PG X tg (tgX cm ks gg) := by
  obtain ⟨t, a1, a2⟩ := h.ex
  exact ⟨fun pins s σ H v u Q I r ⟨W0, rr, fps, d, gd, rp, hp⟩ => a1.run pins s σ H v u Q I r (a2 W0 H σ rr fps v d gd rp Q hp)⟩
structure XTs (X : Cx) (cm : Cm) (E : XS) (es : List Expr) (f : Env → Out (Bool × Env)) : Prop where
  ex : ∃ te, PTs X es te ∧ ∀ W0 H σ r fps, Good cm W0 H σ r fps → ∀ Q, Post (f r) (QXT cm W0 H σ fps Q) (XX cm E W0 H σ fps) → te σ H Q
def xYes : Env → Out (Bool × Env) := fun r => .ok (true, r)
theorem xts_nil : XTs X cm E [] xYes := ⟨_, pts_nil, fun W0 H σ r fps gd Q hp => hp H fps gd (Fram.refl H fps)⟩
theorem xts_one {t : Env → Out (Bool × Env)} (h : XT X cm E a t) : XTs X cm E [a] t := by
  obtain ⟨te, h1, h2⟩ := h.ex
  exact ⟨_, pts_one h1, h2⟩
theorem XTs.pts {t : Env → Out (Bool × Env)} (h : XTs X cm E es t) : PTs X es (ttX cm E t) := by
  obtain ⟨te, h1, h2⟩ := h.ex
  exact ⟨fun pins s σ H Q I ⟨W0, r, fps, gd, hp⟩ => h1.run pins s σ H Q I (h2 W0 H σ r fps gd Q hp)⟩
def xturns (gg : D → Env → Out Env) (tt : Env → Out (Bool × Env)) (el : FX) : List D → Env → Out (List D × Env)
  | [], r => .ok ([], r)
  | d :: ds, r => (gg d r).bind fun r1 => (tt r1).bind fun q => if q.1 = true then (el q.2).bind fun y => (xturns gg tt el ds y.2).bind fun z => .ok (y.1 :: z.1, z.2) else xturns gg tt el ds q.2
def xLc (it : Env → Out (List D × Env)) (vs : List Nat) (gg : D → Env → Out Env) (tt : Env → Out (Bool × Env)) (el : FX) : FX := fun r => (it r).bind fun p => if p.1.length ≤ 1000000 then (safe (xturns (fun d r => gg d (wipeE r vs)) tt el p.1 p.2)).bind fun q => .ok (.lst true q.1, wipeE q.2 vs) else .bad
theorem wipeE_len (r : Env) : ∀ vs : List Nat, (wipeE r vs).length = r.length
  | [] => rfl
  | v :: vs => by show ((wipeE r vs).set v none).length = _; rw [List.length_set, wipeE_len r vs]
theorem wipeE_some {r : Env} {i : Nat} {d : D} : ∀ {vs : List Nat}, (wipeE r vs)[i]? = some (some d) → r[i]? = some (some d) ∧ i ∉ vs
  | [], h => ⟨h, by simp⟩
  | v :: vs, h => by
    have h : ((wipeE r vs).set v none)[i]? = some (some d) := h
    rw [List.getElem?_set] at h
    by_cases e : v = i
    · rw [if_pos e] at h
      split at h <;> cases h
    · rw [if_neg e] at h
      obtain ⟨h1, h2⟩ := wipeE_some h
      exact ⟨h1, fun m => (List.mem_cons.mp m).elim (fun z => e z.symm) h2⟩
theorem wipeE_get : ∀ (vs : List Nat) (r : Env) (j : Nat), (wipeE r vs)[j]? = if j ∈ vs ∧ j < r.length then some none else r[j]?
  | [], r, j => by simp [wipeE]
  | v :: vs, r, j => by
    show ((wipeE r vs).set v none)[j]? = _
    rw [List.getElem?_set, wipeE_len]
    by_cases e : v = j
    · subst e
      simp
      split
      · rfl
      · rw [List.getElem?_eq_none (by omega)]
    · rw [if_neg e, wipeE_get vs r j]
      have : j ≠ v := fun z => e z.symm
      simp [this]
theorem wipeE_wipeE (r : Env) (vs : List Nat) : wipeE (wipeE r vs) vs = wipeE r vs := by
  apply List.ext_getElem?
  intro j
  rw [wipeE_get, wipeE_len]
  by_cases h : j ∈ vs ∧ j < r.length
  · rw [if_pos h, wipeE_get, if_pos h]
  · rw [if_neg h]
theorem wipe_get {σ : St} {i : Nat} : ∀ {vs : List Nat}, i ∉ vs → (wipe σ vs)[i]? = σ[i]?
  | [], _ => rfl
  | v :: vs, h => by
    show ((wipe σ vs).set v none)[i]? = _
    rw [List.getElem?_set, if_neg (fun z => h (by simp [z]))]
    exact wipe_get fun m => h (by simp [m])
/-- the slots vs forgotten, on either side -/
theorem Good.wipeL {W0 : Addr → Prop} {H : Hp} {σ : St} {r : Env} {fps : Fps} (g : Good cm W0 H σ r fps) (vs : List Nat) : Good cm W0 H (wipe σ vs) (wipeE r vs) fps :=
  ⟨by rw [wipe_length, wipeE_len, g.len], g.w0, fun i d q => by
    obtain ⟨h1, h2⟩ := wipeE_some q
    obtain ⟨v, k1, k2⟩ := g.sl i d h1
    exact ⟨v, by rw [wipe_get h2]; exact k1, k2⟩, g.nd, g.dj, g.nw, g.mu⟩
theorem Good.unwipe {W0 : Addr → Prop} {H : Hp} {σ : St} {r : Env} {fps : Fps} {vs : List Nat} (g : Good cm W0 H (wipe σ vs) r fps) : Good cm W0 H σ (wipeE r vs) fps :=
  ⟨by rw [wipeE_len, ← g.len, wipe_length], g.w0, fun i d q => by
    obtain ⟨h1, h2⟩ := wipeE_some q
    obtain ⟨v, k1, k2⟩ := g.sl i d h1
    exact ⟨v, by rw [wipe_get h2] at k1; exact k1, k2⟩, g.nd, g.dj, g.nw, g.mu⟩
theorem wipe_keep {σ σ' : St} {vs : List Nat} (k : Keep (kx vs) (wipe σ vs) σ') : wipe σ' vs = wipe σ vs := by
  have hl : σ'.length = σ.length := by rw [k.1, wipe_length]
  apply List.ext_getElem?
  intro i
  by_cases hi : i < σ.length
  · by_cases hv : i ∈ vs
    · have gen : ∀ (τ : St) (us : List Nat), i < τ.length → i ∈ us → (wipe τ us)[i]? = some none := by
        intro τ us ht
        induction us with
        | nil => intro h; cases h
        | cons u us ih =>
          intro h
          show ((wipe τ us).set u none)[i]? = _
          rw [List.getElem?_set]
          by_cases e : u = i
          · rw [if_pos e, wipe_length, if_pos (by rw [e]; exact ht)]
          · rw [if_neg e]
            exact ih ((List.mem_cons.mp h).resolve_left fun z => e z.symm)
      rw [gen σ' vs (by rw [hl]; exact hi) hv, gen σ vs hi hv]
    · rw [wipe_get hv, k.2 i (by simp [hv])]
  · rw [List.getElem?_eq_none (by rw [wipe_length, hl]; omega), List.getElem?_eq_none (by rw [wipe_length]; omega)]
/-- behind a turn the block's slots are as they were, but its own ones -/
theorem Good.same {W0 : Addr → Prop} {H : Hp} {σ σ2 : St} {r : Env} {fps : Fps} {vs : List Nat} (g : Good cm W0 H σ2 r fps) (h : wipe σ2 vs = wipe σ vs) : Good cm W0 H (wipe σ vs) (wipeE r vs) fps := by
  rw [← h]
  exact g.wipeL vs
abbrev Xcon (cm : Cm) (E : XS) (te : TE) (f : FX) : Prop := ∀ W0 H σ r fps, Good cm W0 H σ r fps → ∀ Q, Post (f r) (QX cm W0 H σ fps Q) (XX cm E W0 H σ fps) → te σ H Q
theorem xlc_con {ts : List Nat} {it : Env → Out (List D × Env)} {gg : D → Env → Out Env} {tt : Env → Out (Bool × Env)} {el : FX} {wi : TI} (i2 : ∀ W0 H σ r fps, Good cm W0 H σ r fps → ∀ R, Post (it r) (fun p => ∀ J H1 f1, Good cm W0 H1 σ p.2 f1 → Fram H fps H1 f1 [] → IsIt cm J p.1 (Wof W0 f1) H1 → R J H1) (XX cm E W0 H σ fps) → wi σ H R) :
    Xcon cm E (tLc wi (tgX cm (kx ts) gg) (ttX cm E0' tt) (teX cm E0' el) ts) (xLc it ts gg tt el) := by
  intro W0 H σ r fps gd Q hp
  refine i2 W0 H σ r fps gd _ (hp.bind.mono (fun pp q J H1 f1 g1 fm1 isit => ?_) fun _ _ z => z)
  obtain ⟨ds, r1⟩ := pp
  split at q
  case isFalse => exact q.elim
  rename_i hlen
  intro Dl hD
  have q := (Post.bind q).safe
  have eN := Ex.new (o := .lst []) hD
  have g0 : Good cm (Wp W0 [Dl]) (upd H1 Dl (.lst [])) (wipe σ ts) (wipeE r1 ts) f1 := (g1.wipeL ts).addv eN (fun a m => by rw [List.mem_singleton.mp m]; exact hD) fun a m => by rw [List.mem_singleton.mp m]; exact ⟨_, upd_same, rfl⟩
  have fm0 : Fram H1 f1 (upd H1 Dl (.lst [])) f1 [Dl] := Fram.of_ex eN fun a m => by rw [List.mem_singleton.mp m]; exact hD
  let I : Nat → Hp → Prop := fun i H' => ∃ r' f' ys vs fp, ys.length ≤ i ∧ Good cm (Wp W0 (Dl :: fp)) H' (wipe σ ts) (wipeE r' ts) f' ∧ H' Dl = some (.lst vs) ∧ Reps cm (Wof (Wp W0 (Dl :: fp)) f') H' vs ys fp ∧ (Dl :: fp).Nodup ∧ (∀ a ∈ Dl :: fp, ¬ W0 a) ∧ Fram H1 f1 H' f' (Dl :: fp) ∧
      Post (xturns (fun d r => gg d (wipeE r ts)) tt el (ds.drop i) r') (fun z => QX cm W0 H σ fps Q (.lst true (ys ++ z.1), wipeE z.2 ts)) noX
  refine ⟨fun i m H' => m = ds.length - i ∧ i ≤ ds.length ∧ I i H', ⟨ds.length, by simp, Nat.zero_le _, r1, f1, [], [], [], Nat.le_refl _, g0, upd_same, .nil, by simp, fun a m => by rw [List.mem_singleton.mp m]; exact g1.w0.fresh hD, fm0, q⟩, ?_⟩
  rintro i m H' ⟨rfl, hi, r', f', ys, vs, fp, hy, g', hDl, hr, hnd, hnw, fm', hq⟩
  have hl : Later cm (Wof W0 f1) H1 (Wof (Wp W0 (Dl :: fp)) f') H' := ⟨fun a z => by
    rcases z with (z | z) | ⟨j, z⟩
    · exact .inl (.inl z)
    · exact (fm'.oldv a z).imp (fun ⟨j, m⟩ => .inr ⟨j, m⟩) id
    · exact (fm'.old j a z).imp (fun ⟨j, m⟩ => .inr ⟨j, m⟩) id, fun a o q n t => fm'.keep a o q (fun j m => n (.inr ⟨j, m⟩)) t, g'.wof⟩
  by_cases hlt : i < ds.length
  · right
    obtain ⟨d, hd⟩ : ∃ d, ds[i]? = some d := ⟨ds[i], by simp [hlt]⟩
    obtain ⟨go, yl⟩ := (isit _ H' i hl).1 d hd
    refine ⟨go, I (i + 1), fun H5 h5 => ⟨ds.length - (i + 1), by omega, rfl, hlt, h5⟩, fun x H3 y => ?_⟩
    obtain ⟨e3, r3⟩ := yl x H3 y
    have hdrop : ds.drop i = d :: ds.drop (i + 1) := by
      rw [List.drop_eq_getElem_cons hlt]
      congr 1
      have := List.getElem?_eq_getElem hlt
      rw [this] at hd
      exact Option.some.inj hd
    rw [hdrop] at hq
    have hq := Post.bind hq
    have g3 := g'.ex e3
    have fm3 : Fram H1 f1 H3 f' (Dl :: fp) := (fm'.trans (Fram.of_ex (fpv := []) e3 fun _ m => (nomatch m))).addv fm'.oldv
    refine ⟨_, wipeE r' ts, f', d, g3, r3, hq.mono (fun r2 q2 σ2 f2 g2 s2 k2 => ?_) fun _ _ z => z⟩
    have hw := wipe_keep k2
    refine ⟨hw, ?_⟩
    have fm2 : Fram H1 f1 H3 f2 (Dl :: fp) := ⟨@Fram.keep _ _ _ _ _ _ fm3, fun j a m => fm3.old j a (s2 j a m), fm3.oldv, fm3.back, fm3.tb⟩
    have hr2 : Reps cm (Wof (Wp W0 (Dl :: fp)) f2) H3 vs ys fp := (hr.ex e3).move (fun a z => .inl (z.imp id fun ⟨j, m⟩ => ⟨j, s2 j a m⟩)) fun _ _ q _ _ => q
    have hD3 : H3 Dl = some (.lst vs) := e3 _ _ hDl
    refine ⟨_, r2, f2, g2, (Post.bind q2).mono (fun bb q3 H4 f4 g4 m4 => ?_) fun _ _ z => z.elim⟩
    obtain ⟨bb, r4⟩ := bb
    have nDl : ∀ {HH : Hp} {ff : Fps} {rr : Env} {ss : St} {pp : List Addr}, Good cm (Wp (Wp W0 (Dl :: fp)) pp) HH ss rr ff → ∀ j, Dl ∉ ff j := fun g j m => g.nw j Dl m (.inl (.inr (List.mem_cons_self ..)))
    have nDl' : ∀ {HH : Hp} {ff : Fps} {rr : Env} {ss : St}, Good cm (Wp W0 (Dl :: fp)) HH ss rr ff → ∀ j, ∀ a ∈ Dl :: fp, a ∉ ff j := fun g j a ha m => g.nw j a m (.inr ha)
    have hr4 : Reps cm (Wof (Wp W0 (Dl :: fp)) f4) H4 vs ys fp := hr2.move (fun a z => by
      rcases z with z | ⟨j, m⟩
      · exact .inl (.inl z)
      · exact (m4.old j a m).imp (fun ⟨j, m⟩ => .inr ⟨j, m⟩) id) fun a o q t c => m4.keep a o q (t := t) fun j m => by
        rcases c with c | c
        · exact c (.inr ⟨j, m⟩)
        · exact nDl' g2 j a (List.mem_cons_of_mem _ c) m
    have hD4 : H4 Dl = some (.lst vs) := m4.keep _ _ hD3 fun j m => nDl' g2 j Dl (List.mem_cons_self ..) m
    have fm4 : Fram H1 f1 H4 f4 (Dl :: fp) := (fm2.trans m4).addv fm2.oldv
    cases bb with
    | false =>
      exact ⟨r4, f4, ys, vs, fp, by omega, g4.same hw, hD4, hr4, hnd, hnw, fm4, q3⟩
    | true =>
      refine ⟨_, r4, f4, g4, (Post.bind (o := el r4) q3).mono (fun yy q5 v5 H5 f5 p5 g5 k5 n5 w5 m5 => ?_) fun _ _ z => z.elim⟩
      obtain ⟨y5, r5⟩ := yy
      have hD5 : H5 Dl = some (.lst vs) := m5.keep _ _ hD4 fun j m => nDl' g4 j Dl (List.mem_cons_self ..) m
      have hvl := hr.len
      refine ⟨vs, hD5, Nat.lt_of_lt_of_le (show vs.length < 1000000 by have : ds.length ≤ 1000000 := hlen; omega) (by decide), ?_⟩
      have hr5 : Reps cm (Wof (Wp (Wp W0 (Dl :: fp)) p5) f5) H5 vs ys fp := hr4.move (fun a z => by
        rcases z with (z | z) | ⟨j, m⟩
        · exact .inl (.inl z)
        · exact (m5.oldv a z).imp (fun ⟨j, m⟩ => .inr ⟨j, m⟩) id
        · exact (m5.old j a m).imp (fun ⟨j, m⟩ => .inr ⟨j, m⟩) id) fun a o q t c => m5.keep a o q (t := t) fun j m => by
          rcases c with c | c
          · exact c (.inr ⟨j, m⟩)
          · exact nDl' g4 j a (List.mem_cons_of_mem _ c) m
      have hnp : ∀ a ∈ p5, a ∉ Dl :: fp := fun a m z => w5 a m (.inr z)
      have all : Reps cm (Wof (Wp (Wp W0 (Dl :: fp)) p5) f5) H5 (vs ++ [v5]) (ys ++ [y5]) (fp ++ p5) := Reps.app hr5 (Reps.one k5)
      have ew : Wp (Wp W0 (Dl :: fp)) p5 = Wp W0 (Dl :: (fp ++ p5)) := by rw [wp_wp]; rfl
      have nod : (Dl :: (fp ++ p5)).Nodup := by
        have h1 := List.nodup_cons.mp hnd
        exact List.nodup_cons.mpr ⟨fun m => (List.mem_append.mp m).elim h1.1 fun m => hnp _ m (List.mem_cons_self ..), List.nodup_append.mpr ⟨h1.2, n5, fun a m c m' z => hnp c m' (z ▸ List.mem_cons_of_mem _ m)⟩⟩
      have keepU : ∀ (a : Addr) (o : HO), H5 a = some o → a ≠ Dl → upd H5 Dl (.lst (vs ++ [v5])) a = some o := fun a o q n => by rw [upd_ne n]; exact q
      have g6 : Good cm (Wp W0 (Dl :: (fp ++ p5))) (upd H5 Dl (.lst (vs ++ [v5]))) σ2 r5 f5 := by
        rw [← ew]
        refine ⟨g5.len, ⟨fun a z => ?_, Tabs.updM g5.w0.2 ⟨_, hD5, rfl⟩⟩, fun j d' hj => ?_, g5.nd, g5.dj, g5.nw, fun j a m => ?_⟩
        · by_cases e : a = Dl
          · subst e; exact ⟨_, upd_same, rfl⟩
          · obtain ⟨o, h1, h2⟩ := g5.w0.1 a z
            exact ⟨o, keepU a o h1 e, h2⟩
        · obtain ⟨u, e1, e2⟩ := g5.sl j d' hj
          refine ⟨u, e1, e2.move (fun a z => .inl z) fun a o q t c => keepU a o q ?_⟩
          rcases c with c | c
          · exact fun z => c (.inl (.inl (.inr (z ▸ List.mem_cons_self ..))))
          · exact fun z => nDl g5 j (z ▸ c)
        · obtain ⟨o, h1, h2⟩ := g5.mu j a m
          exact ⟨o, keepU a o h1 fun z => nDl g5 j (z ▸ m), h2⟩
      have m45 : Fram H1 f1 H5 f5 (Dl :: (fp ++ p5)) := (fm4.trans m5).addv fun a m => by
        rcases List.mem_cons.mp m with rfl | m
        · exact fm4.oldv _ (List.mem_cons_self ..)
        · rcases List.mem_append.mp m with m | m
          · exact fm4.oldv a (List.mem_cons_of_mem _ m)
          · exact (fm4.trans m5).oldv a m
      refine ⟨r5, f5, ys ++ [y5], vs ++ [v5], fp ++ p5, by simp; omega, g6.same hw, upd_same, ?_, nod, fun a m => ?_, ⟨fun a o q n t => ?_, m45.old, m45.oldv, fun a q => ?_, fun h => Tabs.updM (m45.tb h) ⟨_, hD5, rfl⟩⟩, ?_⟩
      · rw [← ew]
        refine all.move (fun a z => .inl z) fun a o q t c => keepU a o q ?_
        rcases c with c | c
        · exact fun z => c (.inl (.inl (.inr (z ▸ List.mem_cons_self ..))))
        · intro z
          subst z
          exact (List.nodup_cons.mp nod).1 c
      · rcases List.mem_cons.mp m with rfl | m
        · exact hnw _ (List.mem_cons_self ..)
        · rcases List.mem_append.mp m with m | m
          · exact hnw a (List.mem_cons_of_mem _ m)
          · exact fun z => w5 a m (.inl z)
      · exact keepU a o (m45.keep a o q n t) fun z => by
          subst z
          rcases fm0.oldv a (by simp) with ⟨j, m⟩ | z
          · exact n j m
          · rw [q] at z; cases z
      · by_cases e : a = Dl
        · subst e; rw [upd_same] at q; cases q
        · rw [upd_ne e] at q; exact m45.back a q
      · refine (Post.bind q5).mono (fun z zz => ?_) fun _ _ z => z
        rw [List.append_assoc]
        exact zz
  · left
    have e : i = ds.length := by omega
    subst e
    refine ⟨(isit _ H' _ hl).2 (by simp), ?_⟩
    rw [List.drop_length] at hq
    have hq : QX cm W0 H σ fps Q (.lst true (ys ++ []), wipeE r' ts) := hq
    rw [List.append_nil] at hq
    have gf : Good cm (Wp W0 (Dl :: fp)) H' σ (wipeE r' ts) f' := by
      have h1 := g'.unwipe
      rw [wipeE_wipeE] at h1
      exact h1
    exact hq (.ref Dl) H' f' (Dl :: fp) gf (.lstO hDl hr) hnd hnw ((fm1.trans fm').addv fun a m => by
      rcases fm'.oldv a m with ⟨j, m⟩ | z
      · exact fm1.old j a m
      · exact .inr (fm1.back a z))
theorem xe_lc {elt iter : Expr} {ifs : List Expr} {scope : Scope} {own : List (Str × Nat)} {ts : List Nat} {it : Env → Out (List D × Env)} {gg : D → Env → Out Env} {tt : Env → Out (Bool × Env)} {el : FX} (hc : X.calm = true) (hN : X.N.Nodup) (hi : XI X cm E tg iter it) (ok : BlkOk X.N X.env.scope scope own) (hts : own.map (·.2) = ts)
    (hg : ∀ (s : Shared) (H : Hp) (C : Addr) (cl : List (Str × Addr)) (fp : List Addr), XG (X.blk s H scope (compEnvC scope cl C X.env) fp) cm (kx ts) tg gg) (ht : ∀ (s : Shared) (H : Hp) (C : Addr) (cl : List (Str × Addr)) (fp : List Addr), XTs (X.blk s H scope (compEnvC scope cl C X.env) fp) cm E0' ifs tt)
    (he : ∀ (s : Shared) (H : Hp) (C : Addr) (cl : List (Str × Addr)) (fp : List Addr), XE (X.blk s H scope (compEnvC scope cl C X.env) fp) cm E0' elt el) (hs : ∀ x, foldedSetIterable iter X.env x = pure x := by intro _; rfl) :
    XE X cm E (.ListComp elt [⟨tg, iter, ifs, 0⟩] scope pos) (xLc it ts gg tt el) := by
  obtain ⟨wi, i1, i2⟩ := hi.ex
  refine ⟨_, pe_lc hc hN i1 ok (fun s H C cl fp => (hg s H C cl fp).pg) (fun s H C cl fp => (ht s H C cl fp).pts) (fun s H C cl fp => (he s H C cl fp).pe) hs, ?_⟩
  rw [hts]
  exact xlc_con i2
/-- y = [.. for ..] -/
theorem ds_setLc (i : Nat) {y : Str} {py spos : Pos} {elt iter : Expr} {ifs : List Expr} {scope : Scope} {own : List (Str × Nat)} {ts : List Nat} {it : Env → Out (List D × Env)} {gg : D → Env → Out Env} {tt : Env → Out (Bool × Env)} {el : FX} (hc : X.calm = true) (hN : X.N.Nodup) (hi : XI X cm E tg iter it) (ok : BlkOk X.N X.env.scope scope own) (hts : own.map (·.2) = ts)
    (hg : ∀ (s : Shared) (H : Hp) (C : Addr) (cl : List (Str × Addr)) (fp : List Addr), XG (X.blk s H scope (compEnvC scope cl C X.env) fp) cm (kx ts) tg gg) (ht : ∀ (s : Shared) (H : Hp) (C : Addr) (cl : List (Str × Addr)) (fp : List Addr), XTs (X.blk s H scope (compEnvC scope cl C X.env) fp) cm E0' ifs tt)
    (he : ∀ (s : Shared) (H : Hp) (C : Addr) (cl : List (Str × Addr)) (fp : List Addr), XE (X.blk s H scope (compEnvC scope cl C X.env) fp) cm E0' elt el) (hsw : swapsWith (.ListComp elt [⟨tg, iter, ifs, 0⟩] scope pos) (some (.Name y py)) spos.line X.env = pure true) (hk : ks i = false := by rfl) (hy : X.N[i]? = some y := by rfl) (hyl : X.env.scope.names.lookup y = some .local := by rfl) (hs : ∀ x, foldedSetIterable iter X.env x = pure x := by intro _; rfl) :
    DS X cm E ks (.Assign [.Name y py] (.ListComp elt [⟨tg, iter, ifs, 0⟩] scope pos) spos) (sSet i (xLc it ts gg tt el)) := by
  obtain ⟨wi, i1, i2⟩ := hi.ex
  refine ⟨_, ps_setLc hc hN hy hyl hsw i1 ok (fun s H C cl fp => (hg s H C cl fp).pg) (fun s H C cl fp => (ht s H C cl fp).pts) (fun s H C cl fp => (he s H C cl fp).pe) hs, ?_⟩
  rw [hts]
  exact setCon hk (xlc_con i2)
/-- y = [.. for ..] without effects -/
theorem ds_setLcP (i : Nat) (ns : List Nat) {y : Str} {py spos : Pos} {elt iter : Expr} {ifs : List Expr} {scope : Scope} {own : List (Str × Nat)} {ts : List Nat} {it : Env → Out (List D)} {gg : D → Env → Out Env} {tt : Env → Out Bool} {el : F} (hc : X.calm = true) (hN : X.N.Nodup) (hi : DI X cm E tg iter it) (ok : BlkOk X.N X.env.scope scope own) (hts : own.map (·.2) = ts)
    (hg : ∀ (s : Shared) (H : Hp) (C : Addr) (cl : List (Str × Addr)) (fp : List Addr), DG (X.blk s H scope (compEnvC scope cl C X.env) fp) cm tg ts gg) (ht : ∀ (s : Shared) (H : Hp) (C : Addr) (cl : List (Str × Addr)) (fp : List Addr), DTs (X.blk s H scope (compEnvC scope cl C X.env) fp) cm E0' ifs tt)
    (he : ∀ (s : Shared) (H : Hp) (C : Addr) (cl : List (Str × Addr)) (fp : List Addr), DE (X.blk s H scope (compEnvC scope cl C X.env) fp) cm E0' true elt el) (hsw : swapsWith (.ListComp elt [⟨tg, iter, ifs, 0⟩] scope pos) (some (.Name y py)) spos.line X.env = pure true) (hk : ks i = false := by rfl) (hy : X.N[i]? = some y := by rfl) (hyl : X.env.scope.names.lookup y = some .local := by rfl) (hs : ∀ x, foldedSetIterable iter X.env x = pure x := by intro _; rfl) :
    DS X cm E ks (.Assign [.Name y py] (.ListComp elt [⟨tg, iter, ifs, 0⟩] scope pos) spos) (sSet i (lift ns (cLc it ts gg tt el))) := by
  obtain ⟨wi, i1, i2⟩ := hi.ex
  refine ⟨_, ps_setLc hc hN hy hyl hsw i1 ok (fun s H C cl fp => (hg s H C cl fp).pg) (fun s H C cl fp => (ht s H C cl fp).pts) (fun s H C cl fp => (he s H C cl fp).pe) hs, ?_⟩
  rw [hts]
  refine setCon hk fun W0 H σ r fps g Q hp => ?_
  have h2 := lc_con (tt := tt) (el := el) (g := gg) (ts := ts) i2
  refine h2 (Wr W0 fps ns) H σ (view ns r) (g.wr ns) (g.view ns) Q ?_
  unfold lift at hp
  split at hp
  · rename_i d hd
    rw [hd]
    intro v H' fpv e1 rp fn
    obtain ⟨fps', g', rp', hw, fm⟩ := g.settle ns e1 (Reps.one rp) fn
    have hs : shrs [d] = shr d := by simp [shrs]
    rw [hs] at g'
    exact hp v H' fps' fpv g' rp'.the fn.1 hw fm
  · rename_i x r' hd
    rw [hd]
    exact XX.of_x g ns hp r'
  · exact hp.elim
end
end DL

set_option maxHeartbeats 4000000
namespace DL
variable [Tbs]
open PySem L2 PySem.Spec PyProof.Rows
open AutoSeq1 (wpAny_loadPart')
open PyProof.Rows (envOfC)
theorem tuple_mul1 (l : Addr) (items : Array Value) (n : Nat) (dd : Option Addr) (sl : Array (Option Value)) (u : Tok) :
    Meets (Builtin.«tuple.__mul__» ⟨[.ref l, .int 1 u], []⟩) (fun _ R s => s.heap.get? l = some { cls := .type "tuple", dict := dd, data := .seq items n, slots := sl } ∧ R (.ok (.ret (Value.ref l))) s) :=
  .of_wp fun prog w A R s h => by
    obtain ⟨hp, g, d, tk, os⟩ := s
    obtain ⟨hl, h⟩ := h
    have f1 := AutoSeq1.idx_int
    wp_walk using wpAny_loadPart' hl
    exact ⟨_, rfl, h⟩
def rRepT1 (K : PySem.W.Frag) : R2 := fun x y H Q => ∃ l xs, x = .ref l ∧ y = .int 1 ∧ SqT K H l xs ∧ Q (.ref l) H
theorem op_repT1 {X : Cx} : OpR X (binaryOp .Mult) (rRepT1 X.K) := by
  intro pins s σ H x y v u Q I rx ry h
  obtain ⟨l, xs, rfl, rfl, hT, q⟩ := h
  cases rx
  obtain ⟨t, rfl⟩ := ry
  obtain ⟨its, r, ⟨⟨cls, dd, data, sl⟩, ho, hc, n, hd⟩, hs⟩ := I.tuple hT
  simp only at hc hd
  subst hc hd
  exact wpAny_binaryOp_repeat_ref (T := "tuple") (U := "int") (by decide) ⟨_, ho, rfl⟩ (fun s' => typeIs_int s' 1 t) noFill_tuple_mul F.fills_int_mul F.slot_int_rmul repeat_tuple F.slot_int_index.lookup
    (call_meets F.slot_int_rmul (typeIs_int s 1 t) F.entry_int_rmul (F.args_int_rmul_2 _ _) (int_rmul_tuple 1 t l its.toArray n dd sl)
      ⟨ho, rfl, ⟨_, ho, rfl⟩, call_meets F.slot_tuple_mul ⟨_, ho, rfl⟩ F.entry_tuple_mul (F.args_tuple_mul_2 _ _) (tuple_mul1 l its.toArray n dd sl t) ⟨ho, .ref l, H, I, rfl, q⟩⟩)
section
variable {X : Cx} {cm : Cm} {E : XS} {b : Bool} {pos p : Pos} {a c e : Expr} {fa fb : DL.F}
def gMulT : D → D → Out D := fun x y => match x, y with
  | .tup u, .int n => if u ≠ [] ∧ u.length ≤ 1000 ∧ 1 ≤ n ∧ n ≤ 1000 then .ok (.tup (List.replicate n.toNat u).flatten) else .bad
  | _, _ => .bad
instance instNil (u : List D) : Decidable (u ≠ []) := by
  cases u with
  | nil => exact isFalse fun h => h rfl
  | cons a b => exact isTrue fun h => nomatch h
theorem o_mulT : Op2' cm b (fun x y H Q => rRepT1 X.K x y H Q ∨ rRepT X.K x y H Q) gMulT := fun W H x y dx dy w rx ry Q hp => by
  unfold gMulT at hp
  split at hp
  · split at hp
    · rename_i hz
      cases ry
      rename_i u n
      generalize hf : ([] : List Addr) = fp at rx
      cases rx with
      | tup h nw r =>
        subst hf
        by_cases e : n = 1
        · subst e
          refine .inl ⟨_, _, rfl, rfl, SqT.of h, ?_⟩
          have : (List.replicate (1 : Int).toNat u).flatten = u := by simp
          rw [this] at hp
          exact hp _ H [] (Ex.refl H) (Rep.tup h nw r).toP FpN.nil
        · refine .inr ⟨_, _, _, rfl, rfl, SqT.of h, ?_, by omega, by omega, by rw [r.len]; exact hz.2.1, fun pp hp' => hp (.ref pp) _ [] (Ex.new hp') (.tup upd_same (fun z => z.elim (w.fresh hp') fun m => nomatch m) ((r.rep _).ex (Ex.new hp')).toP) FpN.nil⟩
          intro z
          have := r.len
          rw [z] at this
          exact hz.1 (List.eq_nil_of_length_eq_zero this.symm)
    · exact hp.elim
  · exact hp.elim
theorem noEx_mulT : NoEx gMulT := fun a b x r h => by
  unfold gMulT at h
  split at h
  · split at h <;> cases h
  · cases h
theorem de_mulT (ha : DE X cm E false a fa) (hb : DE X cm E false c fb) : DE X cm E b (.BinOp a .Mult c pos) (c2 gMulT fa fb) := de_op (op_repT1.or op_repT) o_mulT noEx_mulT ha hb
theorem de_dK0 : DE X cm E true (.Dict [] [] pos) (cK (.dK true [] [])) := ⟨_, pe_dnewK, fun W H σ r w fr Q hp pp hpp => hp (.ref pp) _ [pp] (Ex.new hpp) (.dKO (vs := []) (fp := []) upd_same rfl .nil) (fpN_new hpp)⟩
theorem de_globI {x : Str} {i : Int} (h : ∃ t, X.mg x = some (.int i t)) (hg : Gl X x := by rfl) (hd : (x == ("__debug__" : Str)) = false := by decide) : DE X cm E b (.Name x pos) (cK (.int i)) := by
  obtain ⟨t, h⟩ := h
  exact de_con (v := .int i) (pe_glob (v := .int i) hg h ⟨t, rfl⟩ hd) fun _ _ => .int i
theorem de_globS {x : Str} {cs : List Nat} (h : ∃ t, X.mg x = some (.str ⟨cs.toArray⟩ t)) (hg : Gl X x := by rfl) (hd : (x == ("__debug__" : Str)) = false := by decide) : DE X cm E b (.Name x pos) (cK (.str cs)) := by
  obtain ⟨t, h⟩ := h
  exact de_con (v := .str ⟨cs.toArray⟩) (pe_glob (v := .str ⟨cs.toArray⟩) hg h ⟨t, rfl⟩ hd) fun _ _ => .str cs
/-- in a def's body: what is raised leaves it -/
theorem pxB {P : Program} {w : World} {K : PySem.W.Frag} {mg : Str → Option Value} {base : Heap} {N : List Str} {qual : Str} {sc : Scope} {f : Addr} {cdv : Value} {A : Around} {outer : List PySem.Env} {s : Shared} {H : Hp} {E : XK} : PassG (cxB P w K mg base N qual sc f cdv A outer s H E) (fun _ => E) :=
  fun σ => passAt (X := cxB P w K mg base N qual sc f cdv A outer s H E) (W := fun cls d _ H => E cls d H) (takes_of rfl rfl rfl rfl) σ
theorem poB {P : Program} {w : World} {K : PySem.W.Frag} {mg : Str → Option Value} {base : Heap} {N : List Str} {qual : Str} {sc : Scope} {f : Addr} {cdv : Value} {A : Around} {outer : List PySem.Env} {s : Shared} {H : Hp} {E : XK} : PassesOwn (model P w) (cxB P w K mg base N qual sc f cdv A outer s H E).A (cxB P w K mg base N qual sc f cdv A outer s H E).env (cxB P w K mg base N qual sc f cdv A outer s H E).xe :=
  passes_of (X := cxB P w K mg base N qual sc f cdv A outer s H E) rfl
/-- a def of the text, ready to be called -/
structure CallOk (P : Program) (w : World) (K : PySem.W.Frag) (mg : Str → Option Value) (base : Heap) (x : Str) (k : Nat) (ps : List Str) (sp : Sp) : Prop where
  ex : ∃ f fd, FnG P w K mg base k f fd ps sp ∧ mg x = some (.ref f) ∧ PySem.W.keepIn K (.ref f) = true ∧ Binds K fd ps []
variable {x : Str} {k n : Nat} {ps : List Str} {m : List D → Out D} {es : List Expr}
def chk (n : Nat) (m : List D → Out D) : List D → Out D := fun ds => if ds.length = n then m ds else .bad
theorem de_fn {fs : DL.Env → Out (List D)} (C : CallOk X.prog X.w X.K X.mg X.base x k ps (spP cm n m)) (hr : RoomG k X.A) (hx : PassG X E) (ha : DA X cm E false (e :: es) fs) (hg : Gl X x := by rfl) (hn : ps.length = n := by rfl) (hdb : (x == ("__debug__" : Str)) = false := by decide)
    (he : starEach (e :: es) X.env = (false, eval e X.env) :: starEach es X.env := by rfl) (hpl : (backTo pos (starEach es X.env)).any (·.1) = false := by rfl) : DE X cm E true (.Call (.Name x p) (e :: es) [] pos) (cA (chk n m) fs) := by
  obtain ⟨f, fd, h1, h2, h3, h4⟩ := C.ex
  exact de_call h1 hr hg h2 h3 h4 hx ha hn hdb he hpl
theorem xe_fn {fs : DL.Env → Out (List D × DL.Env)} (C : CallOk X.prog X.w X.K X.mg X.base x k ps (spP cm n m)) (hr : RoomG k X.A) (hx : PassG X E) (ha : XA X cm E (e :: es) fs) (hg : Gl X x := by rfl) (hn : ps.length = n := by rfl) (hdb : (x == ("__debug__" : Str)) = false := by decide)
    (he : starEach (e :: es) X.env = (false, eval e X.env) :: starEach es X.env := by rfl) (hpl : (backTo pos (starEach es X.env)).any (·.1) = false := by rfl) : XE X cm E (.Call (.Name x p) (e :: es) [] pos) (xC (chk n m) fs) := by
  obtain ⟨f, fd, h1, h2, h3, h4⟩ := C.ex
  exact xe_call h1 hr hg h2 h3 h4 hx ha hn hdb he hpl
theorem xe_fio {mm : List D → Out (D × D)} (i : Nat) {fs : DL.Env → Out (List D × DL.Env)} (C : CallOk X.prog X.w X.K X.mg X.base x k ps (spX cm n mm)) (hr : RoomG k X.A) (hx : PassG X E) (hv : PE X e (tVar i)) (ha : XA X cm E es fs) (hg : Gl X x := by rfl) (hdb : (x == ("__debug__" : Str)) = false := by decide)
    (he : starEach (e :: es) X.env = (false, eval e X.env) :: starEach es X.env := by rfl) (hpl : (backTo pos (starEach es X.env)).any (·.1) = false := by rfl) : XE X cm E (.Call (.Name x p) (e :: es) [] pos) (xIO i n mm fs) := by
  obtain ⟨f, fd, h1, h2, h3, h4⟩ := C.ex
  exact xe_io i h1 hr hg h2 h3 h4 hx hv ha hdb he hpl
theorem mk_pure {P : Program} {w : World} {K : PySem.W.Frag} {mg : Str → Option Value} {base : Heap} {qual : Str} {st : Stmt} {f : Addr} {fd : FuncData} {N : List Str} {g : FS} (Fu : Fun K x qual st f fd) (S : FnScope N ps (defScope st)) (hm : mg x = some (.ref f)) (hb : Binds K fd ps [])
    (hbody : ∀ (cdv : Value) (A : Around) (outer : List PySem.Env) (s : Shared) (H : Hp) (E : XK), RoomG k (A.deeper (envOfC qual (defScope st) s.heap.objs.size f cdv)) → DSs (cxB P w K mg base N qual (defScope st) f cdv A outer s H E) cm (fun _ => E) k0 (defBody st) g) :
    CallOk P w K mg base x (k + 1) ps (spP cm ps.length (runP ps.length N.length g)) := ⟨f, fd, fn_pure Fu S hbody, hm, Fu.kp, hb⟩
theorem mk_io {P : Program} {w : World} {K : PySem.W.Frag} {mg : Str → Option Value} {base : Heap} {qual : Str} {st : Stmt} {f : Addr} {fd : FuncData} {N : List Str} {g : FS} (Fu : Fun K x qual st f fd) (S : FnScope N ps (defScope st)) (hm : mg x = some (.ref f)) (hb : Binds K fd ps [])
    (hbody : ∀ (cdv : Value) (A : Around) (outer : List PySem.Env) (s : Shared) (H : Hp) (E : XK), RoomG k (A.deeper (envOfC qual (defScope st) s.heap.objs.size f cdv)) → DSs (cxB P w K mg base N qual (defScope st) f cdv A outer s H E) cm (fun _ => E) k1 (defBody st) g) :
    CallOk P w K mg base x (k + 1) ps (spX cm ps.length (runX ps.length N.length g)) := ⟨f, fd, fn_io Fu S hbody, hm, Fu.kp, hb⟩
end
/-! ### the law: a list of at most 63 ints is handed in, True comes out -/
def spLaw (K : PySem.W.Frag) : Sp := fun vs H Q _ => ∃ (a : Addr) (ns : List Int), vs = [.ref a] ∧ SqL K H a (ns.map V.int) ∧ ns.length ≤ 63 ∧ Only H ∧ ∀ H', Q (.bl true) H'
theorem sp_law {cm : Cm} {m : List D → Out D} (h : ∀ ns : List Int, ns.length ≤ 63 → m [.scr ns] = .ok (.bl true)) (hT : Tbs.T = [] := by rfl) : ∀ vs H Q E, spLaw cm.K vs H Q E → spP cm 1 m vs H Q E := by
  rintro vs H Q E ⟨a, ns, rfl, hs, hl, ho, k⟩
  have rp : Rep cm (fun _ => False) H (.ref a) (.scr ns) [] := by
    rcases hs with (hs | ⟨o, hs⟩) | hs
    · rcases ho a with q | ⟨o, xs, q⟩
      · rw [hs] at q; cases q
      · rw [hs] at q; cases q
    · exact .scrF hs fun z => z
    · exact .scrK fun H' => .inr hs
  refine ⟨fun _ => False, [.scr ns], ⟨fun _ z => z.elim, by rw [hT]; exact fun _ z => nomatch z⟩, Reps.one rp, rfl, ?_⟩
  rw [h ns hl]
  intro v H' fp e rv _
  cases rv
  exact k H'
theorem depth_ok {k : Nat} (hk : k ≤ 200) : callerA.depth + 3 * k + 5 < recursionLimit := by
  have h1 : callerA.depth ≤ 301 := by decide
  have h2 : recursionLimit = 1000 := rfl
  omega
theorem units_ok {k : Nat} (hk : k ≤ 200) : callerA.units + 16 * k + 200 < cLine := by
  have h1 : callerA.units ≤ 5000 := by decide
  have h2 : cLine = 9900 := rfl
  omega
/-- the law's call, from the heap behind the top -/
theorem law_go {P : Program} {w : World} {K : PySem.W.Frag} {mg mb : Str → Option Value} {k : Nat} {fa a : Addr} {fd : FuncData} {x : Str} {s₁ : Shared} {vs : List Value} {ns : List Int} (hk : k ≤ 200)
    (kin : K.In s₁.heap) (hg : s₁.heap.Ns mainGlobals mg) (hb : s₁.heap.Ns builtinsNs mb) (hbb : ∀ x : Str, x ≠ "__name__" → mb x = bootBuiltins x) (hlim : s₁.heap.NoLimit) (gen0 : s₁.gens = #[])
    (ha : s₁.heap.get? a = some { cls := .type "list", data := .seq vs.toArray }) (hi : IntsAre vs ns) (hl : ns.length ≤ 63)
    (F : ∀ base : Heap, K.In base → base.Ns mainGlobals mg → FnG P w K mg base k fa fd [x] (spLaw K)) (bind : ∀ (s : Shared) (u : Value), BindsTo s fd ⟨[u], []⟩ [(x, u)]) :
    codeAny (model P w) callerA (.call (.ref fa) ⟨[.ref a], []⟩) (fun r s' => r = .ok (.ret (.bool true)) ∧ OldK s₁.heap s'.heap ∧ s'.os = s₁.os ∧ AllBare s'.gens) s₁ := by
  have hz : ns.length ≤ sizeLine := Nat.le_trans hl (by decide)
  have rv := vals_ints hi
  have main : ∀ H : Hp, Only H → SqL K H a (ns.map V.int) → HOk P w H s₁.heap → (∀ b, H b ≠ none → b = a ∧ K.lookup a = none) →
      codeAny (model P w) callerA (.call (.ref fa) ⟨[.ref a], []⟩) (fun r s' => r = .ok (.ret (.bool true)) ∧ OldK s₁.heap s'.heap ∧ s'.os = s₁.os ∧ AllBare s'.gens) s₁ := by
    intro H only sq hok one
    have kinB : K.In (hidT s₁.heap H) := fun b o e => hidT_get (kin b o e) (Classical.byContradiction fun z => by
      obtain ⟨rfl, q⟩ := one b z
      rw [q] at e; cases e)
    have nsB : ∀ {b : Addr} {m : Str → Option Value}, s₁.heap.Ns b m → (hidT s₁.heap H).Ns b m := by
      rintro b m ⟨o, es, ep, e, d, r⟩
      refine ⟨o, es, ep, hidT_get e (Classical.byContradiction fun z => ?_), d, r⟩
      obtain ⟨rfl, _⟩ := one b z
      rw [ha] at e
      cases e
      cases d
    have lim : (hidT s₁.heap H).NoLimit := by
      obtain ⟨mc, h1, h2⟩ := hlim
      exact ⟨mc, nsB h1, h2⟩
    have mod : Mod K mg (hidT s₁.heap H) := ⟨kinB, nsB hg, ⟨mb, nsB hb, hbb⟩, lim⟩
    have e0 : Env0 P w K mg (hidT s₁.heap H) callerA [] s₁ H := ⟨rfl, mod, fun _ _ e => of_hidT e, Nat.le_of_eq (hidT_size _ _), trivial, fun _ z => absurd z List.not_mem_nil, hok, AllBare.of_eq gen0⟩
    refine codeAny_mono ((F _ kinB (nsB hg)).go callerA [] s₁ H ⟨[.ref a], []⟩ [.ref a] [.ref a] (fun v _ => v = .bl true) (fun _ _ _ => False) ⟨⟨rfl, depth_ok hk, units_ok hk⟩, rfl⟩ e0 (bind s₁ (.ref a)) (.cons rfl .nil) ⟨a, ns, rfl, sq, hl, only, fun _ => rfl⟩) ?_
    intro r s' h
    match r, h with
    | .error e, h =>
      obtain ⟨_, _, _, _, _, _, _, _, _, _, _, _, z⟩ := h
      exact z.elim
    | .ok (.ret u), ⟨v, H', os, bare, un, hok', r', q⟩ =>
      cases (show v = .bl true from q)
      cases (show u = Value.bool true from r')
      refine ⟨rfl, OldK.of_keep fun b o e => ?_, os, bare⟩
      cases q : H b with
      | none => exact un.keep b o e q (fun z => absurd z List.not_mem_nil) (fun z => absurd z List.not_mem_nil)
      | some u =>
        rcases only b with z | ⟨ob, xs, z⟩
        · rw [q] at z; cases z
        · have e1 := (hok b _ z).1
          have e2 := (hok' b _ (un.frzs b ob _ z)).1
          rw [e] at e1
          cases e1
          exact e2
  cases lk : K.lookup a with
  | some o =>
    have e := kin a o lk
    rw [ha] at e
    cases e
    refine main (fun _ => none) (fun _ => .inl rfl) (.inr ⟨_, vs.toArray, _, lk, rfl, rfl, rfl, ?_, ?_⟩) (fun _ _ z => nomatch z) (fun _ z => absurd rfl z)
    · rw [List.size_toArray, hi.length]; exact hz
    · simpa using rv
  | none =>
    let o : Obj := { cls := .type "list", data := .seq vs.toArray }
    have at1 : (fun b => if b = a then some (HO.frz o (.lst (ns.map V.int))) else none : Hp) a = some (.frz o (.lst (ns.map V.int))) := if_pos rfl
    refine main (fun b => if b = a then some (.frz o (.lst (ns.map V.int))) else none) (fun b => ?_) (.inl (.inr ⟨o, at1⟩)) (fun b u z => ?_) (fun b z => ?_)
    · by_cases q : b = a
      · exact .inr ⟨_, _, if_pos q⟩
      · exact .inl (if_neg q)
    · by_cases q : b = a
      · subst q
        rw [at1] at z
        cases z
        exact ⟨ha, by rw [List.length_map]; exact hz, vs, _, rv, ha⟩
      · exact nomatch (if_neg q).symm.trans z
    · by_cases q : b = a
      · exact ⟨q, lk⟩
      · exact absurd (if_neg q) z
theorem walk_law {l : PySem.W.OpenLaw} {q : Program} {loose : List Str} {XP : (Str → Option Value) → Heap → Prop} {YP : World → Heap → Prop} {d : DefRec} {K : Params → PySem.W.Frag} {k : Nat} {x : Str} (hk : k ≤ 200) (hn : l.most = some 63) (hdf : d.params.defaults = [])
    (hY : ∀ (w : World) (h : Heap), YP w h → (K w.params).In h)
    (F : ∀ (w : World) (mg : Str → Option Value) (fa : Addr) (h : Heap), (K w.params).In h → h.Ns mainGlobals mg → mg d.name = some (.ref fa) →
      ∃ fd : FuncData, (∀ (s : Shared) (u : Value), BindsTo s fd ⟨[u], []⟩ [(x, u)]) ∧ ∀ base : Heap, (K w.params).In base → base.Ns mainGlobals mg → FnG l.prog w (K w.params) mg base k fa fd [x] (spLaw (K w.params))) :
    PySem.W.WalkO q loose XP YP l.row.toRowW d [] (fun f vs => PySem.call f vs) := by
  apply Att.attach_call hn hdf
  intro w s₀ s₁ mg mb fa o pm cd doc a vs ns G Y _ _ _ hmg hobj hints hlen hg
  obtain ⟨fd, b, f⟩ := F w mg fa _ (hY w _ Y) G.T.g hmg
  exact law_go hk (hY w _ Y) G.T.g G.T.b G.T.builtins G.T.nolimit hg hobj hints hlen f b
end DL

namespace DL
variable [Tbs]
open PySem L2 PySem.Spec PyProof.Rows
/-! ### zip and enumerate over texts, lists, tuples in any mix -/
inductive Sr where
  | txt (x : Str) | lst (a : Addr) | tup (a : Addr)
def Sr.v : Sr → V
  | .txt x => .str x | .lst a => .ref a | .tup a => .ref a
def Sr.its (K : PySem.W.Frag) (H : Hp) : Sr → List V → Prop
  | .txt x, xs => xs = x.cps.toList.map fun c => V.str ⟨#[c]⟩
  | .lst a, xs => SqL K H a xs
  | .tup a, xs => SqT K H a xs
def Sr.ad : Sr → List Addr
  | .txt _ => [] | .lst a => [a] | .tup a => [a]
def Sr.at (it : Addr) (t : Tok) : Sr → Nat → Heap → Prop
  | .txt x, i, h => h.IsStrIter it (strIterType x) x t i
  | .lst a, i, h => h.IsListIter it a i
  | .tup a, i, h => h.IsTupleIter it a i
def Sr.ob (t : Tok) : Sr → Obj
  | .txt x => { cls := .type (strIterType x), data := .fields #[.str x t, .int 0 0] }
  | .lst a => { cls := .type "list_iterator", data := .fields #[.ref a, .int 0 0] }
  | .tup a => { cls := .type "tuple_iterator", data := .fields #[.ref a, .int 0 0] }
theorem Sr.at_obj {sr : Sr} {it : Addr} {t : Tok} {i : Nat} {h : Heap} (st : sr.at it t i h) : ∃ o, h.get? it = some o ∧ ∀ v, o.data ≠ .cell v := by
  cases sr <;> (obtain ⟨o, e, _, d⟩ := st; exact ⟨o, e, fun v q => by rw [d] at q; cases q⟩)
theorem Sr.at_keep {sr : Sr} {it : Addr} {t : Tok} {i : Nat} {h h' : Heap} (st : sr.at it t i h) (k : ∀ o, h.get? it = some o → h'.get? it = some o) : sr.at it t i h' := by
  cases sr <;> (obtain ⟨o, e, r⟩ := st; exact ⟨o, k o e, r⟩)
theorem Sr.at_zero {sr : Sr} {it : Addr} {t : Tok} {h : Heap} (e : h.get? it = some (sr.ob t)) : sr.at it t 0 h := by
  cases sr <;> exact ⟨_, e, rfl, rfl⟩
section
variable {X : Cx} {pins : List (Addr × Obj)} {σ : L2.St} {H : Hp} {s : Shared}
theorem Sr.inj {sr : Sr} {xs ys : List V} (I : Inv X pins σ H s) (h : sr.its X.K H xs) (h' : sr.its X.K H ys) : xs = ys := by
  cases sr with
  | txt x => exact Eq.trans h (Eq.symm h')
  | lst a => exact I.list_inj h h'
  | tup a => exact I.tuple_inj h h'
theorem Sr.lt {sr : Sr} {xs : List V} (I : Inv X pins σ H s) (h : sr.its X.K H xs) : ∀ a ∈ sr.ad, a < s.heap.objs.size := by
  intro a ha
  cases sr with
  | txt x => cases ha
  | lst b =>
    cases List.mem_singleton.mp ha
    obtain ⟨its, rv, p, _⟩ := I.list h
    exact p.lt
  | tup b =>
    cases List.mem_singleton.mp ha
    obtain ⟨its, rv, p, _⟩ := I.tuple h
    obtain ⟨o, ho, _⟩ := p
    exact Heap.lt_size ho
theorem Sr.begins {sr : Sr} {xs : List V} {u : Value} (I : Inv X pins σ H s) (h : sr.its X.K H xs) (r : RelV sr.v u) : ∃ (t : Tok) (B : Heap → Prop), Begins u (sr.ob t) B ∧ B s.heap := by
  cases sr with
  | txt x =>
    obtain ⟨t, rfl⟩ := r
    exact ⟨t, _, begins_text x t, trivial⟩
  | lst a =>
    cases r
    obtain ⟨its, rv, p, _⟩ := I.list h
    exact ⟨0, _, begins_list a its.toArray, p.isList⟩
  | tup a =>
    cases r
    obtain ⟨its, rv, p, _⟩ := I.tuple h
    exact ⟨0, _, begins_tuple a its.toArray, p⟩
theorem Sr.draws {sr : Sr} {xs : List V} {it : Addr} {t : Tok} (hc : X.calm = true) (I : Inv X pins σ H s) (h : sr.its X.K H xs) (hn : it ∉ sr.ad) :
    ∃ (P : Nat → Value → Prop) (S : Nat → Heap → Prop), Draws X.prog X.w X.A.in1 it (it :: sr.ad) xs.length P S ∧ (∀ i v, P i v → ∃ x, xs[i]? = some x ∧ RelV x v) ∧ (∀ i, sr.at it t i s.heap → S i s.heap) ∧ ∀ i h, S i h → sr.at it t i h := by
  have hh : X.A.in1.handled = none := I.ok.hd hc
  cases sr with
  | txt x =>
    have h : xs = x.cps.toList.map fun c => V.str ⟨#[c]⟩ := h
    subst h
    have D := Draws.text (prog := X.prog) (w := X.w) hh it x t
    have e0 : x.cps.size = (x.cps.toList.map fun c => V.str ⟨#[c]⟩).length := by simp
    rw [e0] at D
    refine ⟨_, _, D, fun i v q => ?_, fun i st => st, fun i h st => st⟩
    obtain ⟨c, u, e, ev⟩ := q
    refine ⟨.str ⟨#[c]⟩, ?_, ⟨u, ev⟩⟩
    rw [List.getElem?_map]
    have : x.cps.toList[i]? = some c := by simpa using e
    rw [this]; rfl
  | lst a =>
    obtain ⟨its, rv, p, _⟩ := I.list h
    have hne : a ≠ it := fun e => hn (by rw [e]; exact List.mem_singleton.mpr rfl)
    have D := Draws.list (prog := X.prog) (w := X.w) hh it a hne its.toArray
    rw [List.size_toArray, ← rv.length] at D
    refine ⟨_, _, D, fun i v e => ?_, fun i st => ⟨st, p.isList⟩, fun i h st => st.1⟩
    have e : its[i]? = some v := by simpa using e
    have hi : i < xs.length := by rw [rv.length]; exact (List.getElem?_eq_some_iff.mp e).1
    have hx : xs[i]? = some xs[i] := List.getElem?_eq_getElem hi
    obtain ⟨u, hu, ru⟩ := rv.get hx
    rw [hu] at e; cases e
    exact ⟨_, hx, ru⟩
  | tup a =>
    obtain ⟨its, rv, p, _⟩ := I.tuple h
    have hne : a ≠ it := fun e => hn (by rw [e]; exact List.mem_singleton.mpr rfl)
    have D := Draws.tuple (prog := X.prog) (w := X.w) hh it a hne its.toArray
    rw [List.size_toArray, ← rv.length] at D
    refine ⟨_, _, D, fun i v e => ?_, fun i st => ⟨st, p⟩, fun i h st => st.1⟩
    have e : its[i]? = some v := by simpa using e
    have hi : i < xs.length := by rw [rv.length]; exact (List.getElem?_eq_some_iff.mp e).1
    have hx : xs[i]? = some xs[i] := List.getElem?_eq_getElem hi
    obtain ⟨u, hu, ru⟩ := rv.get hx
    rw [hu] at e; cases e
    exact ⟨_, hx, ru⟩
end
/-! zip -/
def ItZ (K : PySem.W.Frag) (a b : Sr) (n : Nat) : It :=
  ⟨fun i H => i < n ∧ ∃ (xs ys : List V) (x y : V), a.its K H xs ∧ b.its K H ys ∧ xs[i]? = some x ∧ ys[i]? = some y,
    fun i H v H' => ∃ T x y, v = .ref T ∧ H T = none ∧ H' = upd H T (.tup [x, y]) ∧ (∀ xs, a.its K H xs → xs[i]? = some x) ∧ ∀ ys, b.its K H ys → ys[i]? = some y,
    fun i H => n ≤ i ∧ ∃ xs ys : List V, a.its K H xs ∧ b.its K H ys ∧ n = min xs.length ys.length⟩
structure Ap (z TI TO i1 i2 : Addr) (a b : Sr) : Prop where
  TIz : TI ≠ z
  TOz : TO ≠ z
  TITO : TI ≠ TO
  TIi1 : TI ≠ i1
  TIi2 : TI ≠ i2
  zi1 : z ≠ i1
  zi2 : z ≠ i2
  Ti1 : TO ≠ i1
  Ti2 : TO ≠ i2
  i12 : i1 ≠ i2
  za : z ∉ a.ad
  zb : z ∉ b.ad
  Ta : TO ∉ a.ad
  Tb : TO ∉ b.ad
  a1 : i1 ∉ a.ad
  a2 : i2 ∉ a.ad
  b1 : i1 ∉ b.ad
  b2 : i2 ∉ b.ad
theorem Ap.sep {z TI TO i1 i2 : Addr} {a b : Sr} (D : Ap z TI TO i1 i2 a b) : ZipSep2 z TI TO i1 i2 (i1 :: a.ad) (i2 :: b.ad) where
  TIz := D.TIz
  TOz := D.TOz
  TITO := D.TITO
  TIi1 := D.TIi1
  mem1 := List.mem_cons_self ..
  zf1 := fun h => (List.mem_cons.mp h).elim D.zi1 D.za
  Tf1 := fun h => (List.mem_cons.mp h).elim D.Ti1 D.Ta
  TIi2 := D.TIi2
  mem2 := List.mem_cons_self ..
  zf2 := fun h => (List.mem_cons.mp h).elim D.zi2 D.zb
  Tf2 := fun h => (List.mem_cons.mp h).elim D.Ti2 D.Tb
  sep1_2 := fun h => (List.mem_cons.mp h).elim D.i12 D.b1
  sep2_1 := fun h => (List.mem_cons.mp h).elim D.i12.symm D.a2
theorem turn_zipS {P : Program} {w : World} {K : PySem.W.Frag} {elts : List Expr} {kk : Nat} {tpos : Pos} {a b : Sr} {z TI TO i1 i2 : Addr} {t1 t2 : Tok} {n : Nat} (D : Ap z TI TO i1 i2 a b) :
    Turn P w K (.Tuple elts kk tpos) (ItZ K a b n) [z, TI, TO, i1, i2] z (fun i h => i ≤ n ∧ IsZip h z TI TO .none ∧ IsTupOf2 h TI (.ref i1) (.ref i2) ∧ (∃ x y, IsTupOf2 h TO x y) ∧ a.at i1 t1 i h ∧ b.at i2 t2 i h) where
  mem := by simp
  obj := fun i h st c hc => by
    obtain ⟨hin, hz, hTI, ⟨x, y, hTO⟩, h1, h2⟩ := st
    have e' : c = z ∨ c = TI ∨ c = TO ∨ c = i1 ∨ c = i2 := by simpa using hc
    rcases e' with q | q | q | q | q
    · rw [q]; exact ⟨_, hz, fun v q => nomatch q⟩
    · rw [q]; exact ⟨_, hTI, fun v q => nomatch q⟩
    · rw [q]; exact ⟨_, hTO, fun v q => nomatch q⟩
    · rw [q]; exact Sr.at_obj h1
    · rw [q]; exact Sr.at_obj h2
  keep := fun i h h' st k => by
    obtain ⟨hin, hz, hTI, ⟨x, y, hTO⟩, h1, h2⟩ := st
    exact ⟨hin, k z (by simp) _ hz, k TI (by simp) _ hTI, ⟨x, y, k TO (by simp) _ hTO⟩, Sr.at_keep h1 fun o q => k i1 (by simp) o q, Sr.at_keep h2 fun o q => k i2 (by simp) o q⟩
  item := by
    intro X hP hw hK hc i pins s σ H E I hf st hg
    subst hP hw hK
    obtain ⟨hin, hz, hTI, ⟨x0, y0, hTO⟩, h1, h2⟩ := st
    obtain ⟨hlt, xs, ys, x, y, hqx, hqy, hx, hy⟩ := hg
    obtain ⟨P1, S1, D1, r1, in1, out1⟩ := Sr.draws (t := t1) hc I hqx D.a1
    obtain ⟨P2, S2, D2, r2, in2, out2⟩ := Sr.draws (t := t2) hc I hqy D.b2
    have hzl : z < s.heap.objs.size := Heap.lt_size hz
    have l1 : i1 < s.heap.objs.size := by obtain ⟨o, e, _⟩ := Sr.at_obj h1; exact Heap.lt_size e
    have l2 : i2 < s.heap.objs.size := by obtain ⟨o, e, _⟩ := Sr.at_obj h2; exact Heap.lt_size e
    refine wpAny_pyNext_zipD2_item D.sep D1 D2 hz hTI hTO (in1 i h1) (in2 i h2) (List.getElem?_eq_some_iff.mp hx).1 (List.getElem?_eq_some_iff.mp hy).1 fun u u2 h' tk p1 p2 z' TO' h1' h2' hT hsz hk => ?_
    obtain ⟨x', hx', ru⟩ := r1 i u p1
    rw [hx] at hx'; cases hx'
    obtain ⟨y', hy', ru2⟩ := r2 i u2 p2
    rw [hy] at hy'; cases hy'
    refine ⟨_, rfl, wpAny_letOwnedTupleGo_zip (s := { s with heap := h', toks := tk }) z' fun h'' z'' sb => ?_⟩
    have hT2 : h''.get? s.heap.objs.size = some { cls := .type "tuple", data := .seq #[u, u2] } := (sb.2 _ (Nat.ne_of_gt hzl)).trans hT
    have new : ObjOk X.prog X.w (upd H s.heap.objs.size (.tup [x, y])) h'' s.heap.objs.size (.tup [x, y]) :=
      ⟨by show 2 ≤ sizeLine; decide, [u, u2], .cons ru (.cons ru2 .nil), ⟨_, hT2, rfl, _, rfl⟩⟩
    have I1 : Inv X pins σ (upd H s.heap.objs.size (.tup [x, y])) { s with heap := h'', toks := tk } :=
      I.turnedNew (ch := [z, TI, TO, i1, i2]) (fun c o hb q => (sb.2 c (fun q' => hb (by simp [q']))).trans (hk c o (fun q' => hb (by simp [q'])) (fun q' => hb (by simp [q'])) (fun q' => hb (by simp [q'])) (fun q' => hb (by simp [q'])) q)) hf (Nat.le_refl _) new
    refine ⟨.ref s.heap.objs.size, _, I1, rfl, ⟨_, x, y, rfl, I.hok.fresh (Nat.le_refl _), rfl, fun l hl => by rw [Sr.inj I hl hqx]; exact hx, fun l hl => by rw [Sr.inj I hl hqy]; exact hy⟩, ⟨hlt, z'', ?_, ⟨u, u2, ?_⟩, ?_, ?_⟩, fun c hcm => ?_⟩
    · exact (sb.2 _ D.TIz).trans (hk _ _ D.TIz D.TITO D.TIi1 D.TIi2 hTI)
    · exact (sb.2 _ D.TOz).trans TO'
    · exact Sr.at_keep (out1 _ _ h1') fun o q => (sb.2 _ D.zi1.symm).trans q
    · exact Sr.at_keep (out2 _ _ h2') fun o q => (sb.2 _ D.zi2.symm).trans q
    · have hlt : c < s.heap.objs.size := by
        have e' : c = z ∨ c = TI ∨ c = TO ∨ c = i1 ∨ c = i2 := by simpa using hcm
        rcases e' with q | q | q | q | q
        · rw [q]; exact hzl
        · rw [q]; exact Heap.lt_size hTI
        · rw [q]; exact Heap.lt_size hTO
        · rw [q]; exact l1
        · rw [q]; exact l2
      rw [upd_ne (Nat.ne_of_lt hlt)]
      exact (hf c hcm).1
  done := by
    intro X hP hw hK hc i pins s σ H E I hf st hg
    subst hP hw hK
    obtain ⟨hin, hz, hTI, ⟨x0, y0, hTO⟩, h1, h2⟩ := st
    obtain ⟨hge, xs, ys, hqx, hqy, hn⟩ := hg
    obtain ⟨P1, S1, D1, r1, in1, out1⟩ := Sr.draws (t := t1) hc I hqx D.a1
    obtain ⟨P2, S2, D2, r2, in2, out2⟩ := Sr.draws (t := t2) hc I hqy D.b2
    exact wpAny_pyNext_zipD2_end D.sep D1 D2 hz hTI hTO (in1 i h1) (in2 i h2) (by omega) (by omega) (by omega) fun h' tk hk => ⟨rfl, I.turnedL (ch := [z, TI, TO, i1, i2]) (fun c o hb q =>
      hk c o (fun q' => hb (by simp [q'])) (fun q' => hb (by simp [q'])) (fun q' => hb (by simp [q'])) (fun q' => hb (by simp [q'])) q) hf⟩
  self := fun A i s Q E st h => wpAny_pyIter_zip st.2.1 h
theorem Ap.new {N : Nat} {a b : Sr} (ha : ∀ x ∈ a.ad, x < N) (hb : ∀ x ∈ b.ad, x < N) : Ap (N + 4) (N + 2) (N + 3) N (N + 1) a b where
  TIz := by show (N + 2 : Nat) ≠ (N + 4 : Nat); omega
  TOz := by show (N + 3 : Nat) ≠ (N + 4 : Nat); omega
  TITO := by show (N + 2 : Nat) ≠ (N + 3 : Nat); omega
  TIi1 := by show (N + 2 : Nat) ≠ (N : Nat); omega
  TIi2 := by show (N + 2 : Nat) ≠ (N + 1 : Nat); omega
  zi1 := by show (N + 4 : Nat) ≠ (N : Nat); omega
  zi2 := by show (N + 4 : Nat) ≠ (N + 1 : Nat); omega
  Ti1 := by show (N + 3 : Nat) ≠ (N : Nat); omega
  Ti2 := by show (N + 3 : Nat) ≠ (N + 1 : Nat); omega
  i12 := by show (N : Nat) ≠ (N + 1 : Nat); omega
  za := fun h => by have : (N + 4 : Nat) < N := ha _ h; omega
  zb := fun h => by have : (N + 4 : Nat) < N := hb _ h; omega
  Ta := fun h => by have : (N + 3 : Nat) < N := ha _ h; omega
  Tb := fun h => by have : (N + 3 : Nat) < N := hb _ h; omega
  a1 := fun h => by have : (N : Nat) < N := ha _ h; omega
  a2 := fun h => by have : (N + 1 : Nat) < N := ha _ h; omega
  b1 := fun h => by have : (N : Nat) < N := hb _ h; omega
  b2 := fun h => by have : (N + 1 : Nat) < N := hb _ h; omega
def iZipS (K : PySem.W.Frag) (ta : TA) : TI := fun σ H R => ta σ H fun vs H1 => ∃ (a b : Sr) (xs ys : List V), vs = [a.v, b.v] ∧ a.its K H1 xs ∧ b.its K H1 ys ∧ R (ItZ K a b (min xs.length ys.length)) H1
theorem pi_zipS {X : Cx} {e e2 : Expr} {ta : TA} {p pos tpos : Pos} {elts : List Expr} {kk : Nat} (hg : Gl X "zip") (hm : X.mg "zip" = none) (ha : PA X [e, e2] ta)
    (hs : starEach [e, e2] X.env = (false, eval e X.env) :: starEach [e2] X.env := by rfl) (hpl : (backTo pos (starEach [e2] X.env)).any (·.1) = false := by rfl) :
    PI X (.Tuple elts kk tpos) (.Call (.Name "zip" p) [e, e2] [] pos) (iZipS X.K ta) := by
  refine ⟨fun pins s σ H R I h => ?_⟩
  refine Call_ (ld_blt I hg hm PyProof.Rows.boot_zip (PyProof.Rows.callWith_type1 (thn (ha.run pos pins s σ H _ I h) fun us s1 ⟨vs, H1, I1, r1, q1⟩ => ?_) hs hpl))
  obtain ⟨a, b, xs, ys, ex, hqx, hqy, q⟩ := q1
  subst ex
  cases r1 with
  | cons r rr =>
    cases rr with
    | cons r' rr =>
      cases rr
      have fresh5 : ∀ c, c ∈ [s1.heap.objs.size + 4, s1.heap.objs.size + 2, s1.heap.objs.size + 3, s1.heap.objs.size, s1.heap.objs.size + 1] → FpOk X pins H1 c := fun c hcm => by
        have e' : c = s1.heap.objs.size + 4 ∨ c = s1.heap.objs.size + 2 ∨ c = s1.heap.objs.size + 3 ∨ c = s1.heap.objs.size ∨ c = s1.heap.objs.size + 1 := by simpa using hcm
        have hle : s1.heap.objs.size ≤ c := by
          rcases e' with z | z | z | z | z
          · rw [z]; exact Nat.le_add_right _ _
          · rw [z]; exact Nat.le_add_right _ _
          · rw [z]; exact Nat.le_add_right _ _
          · rw [z]; exact Nat.le_refl _
          · rw [z]; exact Nat.le_add_right _ _
        exact I1.fpOk hle (I1.hok.fresh hle)
      obtain ⟨t1, B1, b1, k1⟩ := Sr.begins I1 hqx r
      obtain ⟨t2, B2, b2, k2⟩ := Sr.begins I1 hqy r'
      refine zip_begins2 b1 b2 k1 k2 fun h' hz hTI hTO h1 h2 hsz hk => wpAny_pyIter_zip hz ?_
      have I2 : Inv X pins σ H1 { s1 with heap := h' } := I1.kept (t' := s1.toks) hk
      exact ⟨s1.heap.objs.size + 4, [s1.heap.objs.size + 4, s1.heap.objs.size + 2, s1.heap.objs.size + 3, s1.heap.objs.size, s1.heap.objs.size + 1], _, _, H1, rfl, I2, turn_zipS (t1 := t1) (t2 := t2) (Ap.new (Sr.lt I1 hqx) (Sr.lt I1 hqy)), ⟨Nat.zero_le _, hz, hTI, ⟨_, _, hTO⟩, Sr.at_zero h1, Sr.at_zero h2⟩, fresh5, q⟩
/-! enumerate -/
def ItE (K : PySem.W.Frag) (a : Sr) (n : Nat) : It :=
  ⟨fun i H => i < n ∧ ∃ (xs : List V) (x : V), a.its K H xs ∧ xs[i]? = some x,
    fun i H v H' => ∃ T x, v = .ref T ∧ H T = none ∧ H' = upd H T (.tup [.int (i : Nat), x]) ∧ ∀ xs, a.its K H xs → xs[i]? = some x,
    fun i H => n ≤ i ∧ ∃ xs : List V, a.its K H xs ∧ n = xs.length⟩
theorem turn_enumS {P : Program} {w : World} {K : PySem.W.Frag} {elts : List Expr} {kk : Nat} {tpos : Pos} {a : Sr} {e it : Addr} {t : Tok} {n : Nat} (hne : e ≠ it) (he : e ∉ a.ad) (hi : it ∉ a.ad) :
    Turn P w K (.Tuple elts kk tpos) (ItE K a n) [e, it] e (fun i h => i ≤ n ∧ (∃ old, IsEnum h e it ((i : Nat) : Int) old) ∧ a.at it t i h) where
  mem := by simp
  obj := fun i h st b hb => by
    obtain ⟨_, ⟨old, he⟩, h1⟩ := st
    have e' : b = e ∨ b = it := by simpa using hb
    rcases e' with z | z
    · rw [z]; exact ⟨_, he, fun v q => nomatch q⟩
    · rw [z]; exact Sr.at_obj h1
  keep := fun i h h' st k => let ⟨hin, ⟨old, he⟩, hi⟩ := st; ⟨hin, ⟨old, k e (by simp) _ he⟩, Sr.at_keep hi fun o q => k it (by simp) o q⟩
  item := by
    intro X hP hw hK hc i pins s σ H E I hf st hg
    subst hP hw hK
    obtain ⟨hin, ⟨old, hen⟩, hit⟩ := st
    obtain ⟨hlt, xs, x, hq, hx⟩ := hg
    obtain ⟨P1, S1, D1, r1, in1, out1⟩ := Sr.draws (t := t) hc I hq hi
    have hel : e < s.heap.objs.size := Heap.lt_size hen
    have hil : it < s.heap.objs.size := by obtain ⟨_, q, _⟩ := Sr.at_obj hit; exact Heap.lt_size q
    refine wpAny_pyNext_enum_itemC D1 hen (in1 i hit) (List.getElem?_eq_some_iff.mp hx).1 hne (fun h => (List.mem_cons.mp h).elim hne he) fun u h' tk p1 ho hit' hT hsz hk => ?_
    obtain ⟨x', hx', ru⟩ := r1 i u p1
    rw [hx] at hx'; cases hx'
    refine ⟨_, rfl, wpAny_letOwnedTupleGo_enum (s := { s with heap := h', toks := tk + 1 }) ho fun h'' he' sb => ?_⟩
    have hT2 : h''.get? s.heap.objs.size = some { cls := .type "tuple", data := .seq #[.int i tk, u] } := (sb.2 _ (Nat.ne_of_gt hel)).trans hT
    have new : ObjOk X.prog X.w (upd H s.heap.objs.size (.tup [.int (i : Nat), x])) h'' s.heap.objs.size (.tup [.int (i : Nat), x]) :=
      ⟨by show 2 ≤ sizeLine; decide, [.int i tk, u], .cons ⟨_, rfl⟩ (.cons ru .nil), ⟨_, hT2, rfl, _, rfl⟩⟩
    have I1 : Inv X pins σ (upd H s.heap.objs.size (.tup [.int (i : Nat), x])) { s with heap := h'', toks := tk + 1 } :=
      I.turnedNew (ch := [e, it]) (fun b ob hb q => (sb.2 b (fun z => hb (by simp [z]))).trans (hk b ob (fun z => hb (by simp [z])) (fun z => hb (by simp [z])) q)) hf (Nat.le_refl _) new
    refine ⟨.ref s.heap.objs.size, _, I1, rfl, ⟨_, x, rfl, I.hok.fresh (Nat.le_refl _), rfl, fun ys hy => by rw [Sr.inj I hy hq]; exact hx⟩, ⟨hlt, ⟨u, ?_⟩, Sr.at_keep (out1 _ _ hit') fun o q => (sb.2 it (Ne.symm hne)).trans q⟩, fun b hb => ?_⟩
    · have e1 : ((i + 1 : Nat) : Int) = (i : Int) + 1 := by omega
      rw [e1]; exact he'
    · have hb' : b < s.heap.objs.size := by
        have e' : b = e ∨ b = it := by simpa using hb
        rcases e' with z | z
        · rw [z]; exact hel
        · rw [z]; exact hil
      rw [upd_ne (Nat.ne_of_lt hb')]
      exact (hf b hb).1
  done := by
    intro X hP hw hK hc i pins s σ H E I hf st hg
    subst hP hw hK
    obtain ⟨hin, ⟨old, hen⟩, hit⟩ := st
    obtain ⟨hge, xs, hq, hn⟩ := hg
    have ei : i = xs.length := by omega
    subst ei
    obtain ⟨P1, S1, D1, r1, in1, out1⟩ := Sr.draws (t := t) hc I hq hi
    obtain ⟨f0, f1, f2, f3, f4, f5⟩ := hf it (by simp)
    exact wpAny_pyNext_enum_endD D1 hen (in1 _ hit) fun h' eb => ⟨rfl, I.turned (t' := s.toks) (fun b o hb q => eb b o hb q) f0 f1 f3 f4 f5⟩
  self := fun A i s Q E st h => let ⟨_, ⟨_, he⟩, _⟩ := st; wpAny_pyIter_enum he h
end DL

namespace DL
variable [Tbs]
open PySem L2 PySem.Spec PyProof.Rows
set_option maxHeartbeats 1000000 in
theorem meets_enum1 {v : Value} {o : Obj} {H : Heap → Prop} (B : Begins v o H) :
    Meets (Builtin.«enumerate.__new__» ⟨[.type "enumerate", v], []⟩) (fun _ R s => H s.heap ∧
      R (.ok (.ret (.ref (s.heap.push o).objs.size))) { s with heap := (s.heap.push o).push { cls := .type "enumerate", data := .fields #[.none, .bool false, .ref s.heap.objs.size, rawInt 0, .none, .none] } }) :=
  .of_wp fun prog w A R s h => by
    obtain ⟨hp, g, d, tk, os⟩ := s; obtain ⟨h1, h⟩ := h
    have hsub := sub_enumerate
    have q1 : ∀ {A' : Around} {E : Value → Shared → Prop} {Q : Value → Shared → Prop}, Q (.ref hp.objs.size) ⟨hp.push o, g, d, tk, os⟩ → wpAny (model prog w) A' (pyIter v) Q E ⟨hp, g, d, tk, os⟩ :=
      fun q => B.iter prog w _ _ ⟨hp, g, d, tk, os⟩ _ h1 q
    wp_walk using q1
    refine wpAny_stack_any fun st => wpAny_pure ?_
    split
    · rename_i c _ _ _ _ _
      cases (c == Value.type "enumerate")
      · wp_walk using q1
        exact ⟨_, rfl, h⟩
      · wp_walk using q1
        exact ⟨_, rfl, h⟩
    · wp_walk using q1
      exact ⟨_, rfl, h⟩
theorem enum1_begins {prog : Program} {w : World} {A : Around} {E : Value → Shared → Prop} {s : Shared} {v : Value} {o : Obj} {H : Heap → Prop} {Q : Value → Shared → Prop} (B : Begins v o H) (h1 : H s.heap)
    (h : ∀ h', IsEnum h' (s.heap.objs.size + 1) s.heap.objs.size 0 .none → h'.get? s.heap.objs.size = some o → h'.objs.size = s.heap.objs.size + 2 →
      (∀ b o, s.heap.get? b = some o → h'.get? b = some o) → Q (.ref (s.heap.objs.size + 1)) { s with heap := h' }) :
    wpAny (model prog w) A (call (.type "enumerate") [v]) Q E s := by
  refine callType_new F.called_enumerate (by decide) (F.typeCall_enumerate_1 _) (F.newCall_enumerate_1 _) (fun obj => F.args_object_init_2 obj _) F.entry_enumerate_new
    (meets_enum1 B) ⟨h1, ?_⟩
  have hz : (s.heap.push o).objs.size = s.heap.objs.size + 1 := Heap.size_push ..
  show _ ∧ _
  rw [hz]
  have he : IsEnum ((s.heap.push o).push { cls := .type "enumerate", data := .fields #[.none, .bool false, .ref s.heap.objs.size, rawInt 0, .none, .none] }) (s.heap.objs.size + 1) s.heap.objs.size 0 .none := by
    have := Heap.get?_push_size (s.heap.push o) (o := { cls := .type "enumerate", data := .fields #[.none, .bool false, .ref s.heap.objs.size, rawInt 0, .none, .none] }) rfl
    rw [hz] at this; exact this
  exact ⟨⟨_, he, rfl⟩, h _ he (Heap.get?_push_of_some _ (Heap.get?_push_size _ B.free)) (by rw [Heap.size_push, hz]) fun b o x => Heap.get?_push_of_some _ (Heap.get?_push_of_some _ x)⟩
def iEnumS (K : PySem.W.Frag) (ta : TA) : TI := fun σ H R => ta σ H fun vs H1 => ∃ (a : Sr) (xs : List V), vs = [a.v] ∧ a.its K H1 xs ∧ R (ItE K a xs.length) H1
theorem pi_enumS {X : Cx} {e : Expr} {ta : TA} {p pos tpos : Pos} {elts : List Expr} {kk : Nat} (hg : Gl X "enumerate") (hm : X.mg "enumerate" = none) (ha : PA X [e] ta) (hs : starEach [e] X.env = [(false, eval e X.env)] := by rfl) :
    PI X (.Tuple elts kk tpos) (.Call (.Name "enumerate" p) [e] [] pos) (iEnumS X.K ta) := by
  refine ⟨fun pins s σ H R I h => ?_⟩
  refine Call_ (ld_blt I hg hm boot_enumerate (PyProof.Rows.callWith_type1 (thn (ha.run pos pins s σ H _ I h) fun us s1 ⟨vs, H1, I1, r1, q1⟩ => ?_) hs rfl))
  obtain ⟨a, xs, ex, hq, q⟩ := q1
  subst ex
  cases r1 with
  | cons r rr =>
    cases rr
    obtain ⟨t1, B1, b1, k1⟩ := Sr.begins I1 hq r
    refine enum1_begins b1 k1 fun h' he hit hsz hk => wpAny_pyIter_enum he ?_
    have I2 : Inv X pins σ H1 { s1 with heap := h' } := I1.kept (t' := s1.toks) hk
    have lt := Sr.lt I1 hq
    refine ⟨s1.heap.objs.size + 1, [s1.heap.objs.size + 1, s1.heap.objs.size], _, _, H1, rfl, I2, turn_enumS (a := a) (t := t1) (n := xs.length) (Nat.succ_ne_self _) (fun h => ?_) (fun h => ?_), ⟨Nat.zero_le _, ⟨.none, he⟩, Sr.at_zero hit⟩, fun b hb => ?_, q⟩
    · exact absurd (lt _ h) (Nat.not_lt.mpr (Nat.le_succ _))
    · exact absurd (lt _ h) (Nat.lt_irrefl _)
    · have e' : b = s1.heap.objs.size + 1 ∨ b = s1.heap.objs.size := by simpa using hb
      have hle : s1.heap.objs.size ≤ b := by
        rcases e' with z | z
        · rw [z]; exact Nat.le_add_right _ _
        · rw [z]; exact Nat.le_refl _
      exact I1.fpOk hle (I1.hok.fresh hle)
/-! ### over data -/
def seqD : D → Option (List D)
  | .str cs => some (cs.map fun c => .str [c])
  | .lst _ xs => some xs
  | .tup xs => some xs
  | _ => none
section
variable {X : Cx} {cm : Cm} {E : XS} {pos : Pos} {a c : Expr}
/-- a walked value as a source -/
theorem seqD_src {W : Addr → Prop} {H : Hp} {v : V} {d : D} {xs : List D} (hk : X.K = cm.K) (r : Rep cm W H v d []) (h : seqD d = some xs) : ∃ (sr : Sr) (vs : List V), v = sr.v ∧ sr.its X.K H vs ∧ vs.length = xs.length ∧
    ∀ W' H2, Later cm W H W' H2 → sr.its X.K H2 vs ∧ ∀ (i : Nat) (d : D), xs[i]? = some d → ∃ u, vs[i]? = some u ∧ Rep cm W' H2 u d [] := by
  generalize hf : ([] : List Addr) = fp at r
  cases r with
  | str cs =>
    cases h
    refine ⟨.txt ⟨cs.toArray⟩, _, rfl, rfl, by simp, fun W' H2 l => ⟨rfl, fun i d hd => ?_⟩⟩
    rw [List.getElem?_map] at hd
    obtain ⟨c, hc, rfl⟩ := Option.map_eq_some_iff.mp hd
    refine ⟨.str ⟨#[c]⟩, ?_, .str [c]⟩
    rw [List.getElem?_map]
    have : cs.toArray.toList[i]? = some c := by simpa using hc
    rw [this]; rfl
  | lstO => cases hf
  | lstF h0 n rs =>
    cases h
    refine ⟨.lst _, _, rfl, SqL.of h0, rs.len, fun W' H2 l => ⟨SqL.of (l.2.1 _ _ h0 n), fun i d hd => ?_⟩⟩
    obtain ⟨u, hu, ru⟩ := rs.at rfl hd
    exact ⟨u, hu, ru.later l⟩
  | tup h0 n rs =>
    cases h
    subst hf
    refine ⟨.tup _, _, rfl, SqT.of h0, rs.len, fun W' H2 l => ⟨SqT.of (l.2.1 _ _ h0 n), fun i d hd => ?_⟩⟩
    obtain ⟨u, hu, ru⟩ := rs.at rfl hd
    exact ⟨u, hu, ru.later l⟩
  | _ => cases h
def iZp (fs : Env → Out (List D)) : Env → Out (List D) := fun r => (fs r).bind fun ds => match ds with
  | [x, y] => match seqD x, seqD y with
    | some xs, some ys => .ok ((xs.zip ys).map fun p => .tup [p.1, p.2])
    | _, _ => .bad
  | _ => .bad
def enumD (xs : List D) : List D := xs.zipIdx.map fun p => .tup [.int (p.2 : Nat), p.1]
def iEn (fs : Env → Out (List D)) : Env → Out (List D) := fun r => (fs r).bind fun ds => match ds with
  | [x] => match seqD x with
    | some xs => .ok (enumD xs)
    | none => .bad
  | _ => .bad
theorem di_enum {tpos : Pos} {elts : List Expr} {kk : Nat} {p : Pos} {fs : Env → Out (List D)} (hk : X.K = cm.K) (hg : Gl X "enumerate") (hm : X.mg "enumerate" = none) (ha : DA X cm E false [a] fs) (hs : starEach [a] X.env = [(false, eval a X.env)] := by rfl) :
    DI X cm E (.Tuple elts kk tpos) (.Call (.Name "enumerate" p) [a] [] pos) (iEn fs) := by
  obtain ⟨ta, h1, h2⟩ := ha.ex
  refine ⟨_, pi_enumS hg hm h1 hs, fun W H σ r w fr R hp => h2 W H σ r w fr _ (hp.bind.mono (fun ds q vs H1 fp e1 r1 f1 => ?_) fun _ _ z => z)⟩
  cases (show fp = [] from f1)
  split at q
  · rename_i x
    split at q
    · rename_i xs hx
      generalize hf : ([] : List Addr) = fp at r1
      cases r1 with
      | cons k1 k2 =>
        obtain ⟨rfl, rfl⟩ := app_nil hf
        cases k2
        obtain ⟨sr, us, rfl, hi, hl, lat⟩ := seqD_src hk k1.ofP hx
        refine ⟨sr, us, rfl, hi, q _ H1 e1 fun W' H2 i l => ?_⟩
        obtain ⟨hi2, at2⟩ := lat W' H2 l
        refine ⟨fun d hd => ?_, fun hd => ?_⟩
        · unfold enumD at hd
          rw [List.getElem?_map] at hd
          obtain ⟨⟨d0, j⟩, hz, rfl⟩ := Option.map_eq_some_iff.mp hd
          rw [List.getElem?_zipIdx] at hz
          obtain ⟨d1, hd1, e⟩ := Option.map_eq_some_iff.mp hz
          cases e
          obtain ⟨u, hu, ru⟩ := at2 i d0 hd1
          refine ⟨⟨by rw [hl]; exact (List.getElem?_eq_some_iff.mp hd1).1, us, u, hi2, hu⟩, fun x H3 y => ?_⟩
          obtain ⟨T, x', rfl, hT, rfl, f⟩ := y
          have := f us hi2
          rw [hu] at this; cases this
          have nT : ¬ W' T := fun z => by obtain ⟨o, h, _⟩ := l.2.2.1 T z; rw [hT] at h; cases h
          refine ⟨Ex.new hT, ?_⟩
          show Rep cm W' _ (.ref T) (.tup [.int ((0 + i : Nat) : Int), d0]) []
          rw [Nat.zero_add]
          exact .tup (fp := []) upd_same nT (.cons (fp := []) (fps := []) (.int _) (.cons (fp := []) (fps := []) (ru.ex (Ex.new hT)) .nil))
        · unfold enumD at hd
          rw [List.getElem?_map, Option.map_eq_none_iff, List.getElem?_eq_none_iff, List.length_zipIdx] at hd
          exact ⟨by rw [hl]; exact hd, us, hi2, rfl⟩
    · exact q.elim
  · exact q.elim
theorem di_zip {tpos : Pos} {elts : List Expr} {kk : Nat} {p : Pos} {fs : Env → Out (List D)} (hk : X.K = cm.K) (hg : Gl X "zip") (hm : X.mg "zip" = none) (ha : DA X cm E false [a, c] fs) (hs : starEach [a, c] X.env = (false, eval a X.env) :: starEach [c] X.env := by rfl) (hpl : (backTo pos (starEach [c] X.env)).any (·.1) = false := by rfl) :
    DI X cm E (.Tuple elts kk tpos) (.Call (.Name "zip" p) [a, c] [] pos) (iZp fs) := by
  obtain ⟨ta, h1, h2⟩ := ha.ex
  refine ⟨_, pi_zipS hg hm h1 hs hpl, fun W H σ r w fr R hp => h2 W H σ r w fr _ (hp.bind.mono (fun ds q vs H1 fp e1 r1 f1 => ?_) fun _ _ z => z)⟩
  cases (show fp = [] from f1)
  split at q
  · rename_i x y
    split at q
    · rename_i xs ys hx hy
      generalize hf : ([] : List Addr) = fp at r1
      cases r1 with
      | cons k1 k2 =>
        obtain ⟨rfl, hf2⟩ := app_nil hf
        cases k2 with
        | cons k2 k3 =>
          obtain ⟨rfl, rfl⟩ := app_nil hf2.symm
          cases k3
          obtain ⟨sr, us, rfl, hi, hl, lat⟩ := seqD_src hk k1.ofP hx
          obtain ⟨sr', us', rfl, hi', hl', lat'⟩ := seqD_src hk k2.ofP hy
          refine ⟨sr, sr', us, us', rfl, hi, hi', q _ H1 e1 fun W' H2 i l => ?_⟩
          obtain ⟨hi2, at2⟩ := lat W' H2 l
          obtain ⟨hi2', at2'⟩ := lat' W' H2 l
          refine ⟨fun d hd => ?_, fun hd => ?_⟩
          · rw [List.getElem?_map] at hd
            obtain ⟨⟨d0, d1⟩, hz, rfl⟩ := Option.map_eq_some_iff.mp hd
            obtain ⟨hd0, hd1⟩ := List.getElem?_zip_eq_some.mp hz
            obtain ⟨u, hu, ru⟩ := at2 i d0 hd0
            obtain ⟨u', hu', ru'⟩ := at2' i d1 hd1
            have l0 := (List.getElem?_eq_some_iff.mp hd0).1
            have l1 := (List.getElem?_eq_some_iff.mp hd1).1
            refine ⟨⟨by omega, us, us', u, u', hi2, hi2', hu, hu'⟩, fun x H3 y => ?_⟩
            obtain ⟨T, x', y', rfl, hT, rfl, f, f'⟩ := y
            have e := f us hi2
            rw [hu] at e; cases e
            have e := f' us' hi2'
            rw [hu'] at e; cases e
            have nT : ¬ W' T := fun z => by obtain ⟨o, h, _⟩ := l.2.2.1 T z; rw [hT] at h; cases h
            exact ⟨Ex.new hT, .tup (fp := []) upd_same nT (.cons (fp := []) (fps := []) (ru.ex (Ex.new hT)) (.cons (fp := []) (fps := []) (ru'.ex (Ex.new hT)) .nil))⟩
          · rw [List.getElem?_map, Option.map_eq_none_iff, List.getElem?_eq_none_iff, List.length_zip] at hd
            exact ⟨by rw [hl, hl']; exact hd, us, us', hi2, hi2', rfl⟩
    · exact q.elim
  · exact q.elim
end
end DL

namespace DL
variable [Tbs]
open PySem L2
/-! ### x op= e, x an int or a text in slot i -/
def isSc : D → Bool
  | .int _ => true
  | .str _ => true
  | _ => false
def sAug (i : Nat) (gg : D → D → Out D) (f : FX) : FS := fun r => match r[i]? with
  | some (some d0) => if isSc d0 = true then (match f r with
    | .ok p => match gg d0 (frz p.1) with
      | .ok d => if i < p.2.length then .nx (p.2.set i (some d)) else .bad
      | _ => .bad
    | .exn x r' => .exn x r'
    | .bad => .bad) else .bad
  | _ => .bad
theorem Rep.sc {cm : Cm} {W W' : Addr → Prop} {H H' : Hp} {v : V} {d : D} {fp : List Addr} (h : Rep cm W H v d fp) (s : isSc d = true) : Rep cm W' H' v d [] := by
  cases h <;> first | (exact .int _) | (exact .str _) | (cases s)
section
variable {X : Cx} {cm : Cm} {E : XS} {pos : Pos} {ks : Nat → Bool} {e : Expr} {f : FX}
theorem ds_aug (i : Nat) {x : Str} {pos' : Pos} {op : Operator} {rr : R2} {gg : D → D → Out D} (hN : X.N.Nodup) (hop : InOp X op rr) (ho : Op2' cm true rr gg) (hn : NoEx gg) (h1 : XE X cm E e f) (hk : ks i = false := by rfl) (hi : X.N[i]? = some x := by rfl) (hx : Loc X.env.scope x := by first | exact Or.inl rfl | exact Or.inr rfl) (hf : X.fn x = true ∨ X.env.scope.names.lookup x = some .local := by first | exact .inl rfl | exact .inr rfl | assumption) :
    DS X cm E ks (.AugAssign (.Name x pos') op e pos) (sAug i gg f) := by
  obtain ⟨t, a1, a2⟩ := h1.ex
  refine ⟨_, ps_aug hN hi hx a1 hop hf, fun W0 H σ r fps g D hp => ?_⟩
  unfold sAug at hp
  split at hp
  · rename_i d0 hd0
    split at hp
    · rename_i hs
      obtain ⟨v0, e0, r0⟩ := g.sl i d0 hd0
      refine ⟨v0, e0, a2 W0 H σ r fps g _ ?_⟩
      split at hp
      · rename_i p hr
        rw [hr]
        intro v H' fps' fpv g' rp nd nw fm
        refine ho (Wof W0 fps') H' v0 v _ _ g'.drop.wof (r0.sc hs) (rp.open g' nw fun _ m => m) _ ?_
        split at hp
        · rename_i d hd
          rw [hd]
          split at hp
          · rename_i hl
            have q : Post ((Out.ok d).bind fun d => .ok (d, p.2)) (QX cm W0 H σ fps (fun z H2 => D.nx (σ.set i (some z)) H2)) (XX cm E W0 H σ fps) :=
              fun v H' fps' fpv g' rp nd nw fm => hp _ H' _ (g'.put rp nd nw i) fm.put (Keep.set hk)
            exact opened g' fm q (fun _ _ z => nomatch z)
          · exact hp.elim
        · exact hp.elim
      · rename_i x r' hr
        rw [hr]
        exact fun H' fps' dx g' fm xr => hp σ H' fps' dx g' fm (Keep.refl ks σ) xr
      · exact hp.elim
    · exact hp.elim
  · exact hp.elim
/-! ### a, b = x, y -/
def sPar (i j : Nat) (h : Env → Out (List D × Env)) : FS := fun r => match h r with
  | .ok p => match p.1 with
    | [a, b] => if i < p.2.length ∧ j < p.2.length then .nx ((p.2.set i (some a)).set j (some b)) else .bad
    | _ => .bad
  | .exn x r' => .exn x r'
  | .bad => .bad
theorem ds_par (i j : Nat) {x y : Str} {a b : Expr} {h : Env → Out (List D × Env)} {px py pt : Pos} {kt k2 pt2} (hc : X.calm = true) (hN : X.N.Nodup) (ha : XA X cm E [a, b] h) (hij : i ≠ j := by decide) (hki : ks i = false := by rfl) (hkj : ks j = false := by rfl) (hi : X.N[i]? = some x := by rfl) (hj : X.N[j]? = some y := by rfl)
    (hx : X.env.scope.names.lookup x = some .local := by rfl) (hy : X.env.scope.names.lookup y = some .local := by rfl)
    (hw : swappedStores [.Tuple [.Name x px, .Name y py] kt pt] (.Tuple [a, b] k2 pt2) X.env = pure (some [x, y]) := by rfl)
    (hs : swapsWithSole [.Tuple [.Name x px, .Name y py] kt pt] (.Tuple [a, b] k2 pt2) pos.line X.env = pure false := by rfl) :
    DS X cm E ks (.Assign [.Tuple [.Name x px, .Name y py] kt pt] (.Tuple [a, b] k2 pt2) pos) (sPar i j h) := by
  obtain ⟨t, a1, a2⟩ := ha.ex
  refine ⟨_, ps_par hc hN hi hj hij hx hy a1 hw hs, fun W0 H σ r fps g D hp => a2 W0 H σ r fps g _ ?_⟩
  unfold sPar at hp
  split at hp
  · rename_i p hr
    rw [hr]
    intro vs H' f' fpv g' rp nd nw fm
    split at hp
    · rename_i da db hl
      rw [hl] at rp
      cases rp with
      | @cons v _ p1 _ _ _ r1 rp =>
        cases rp with
        | @cons w _ p2 _ _ _ r2 rp =>
          cases rp
          rw [List.append_nil] at g' r1 r2 nd nw fm
          split at hp
          · rename_i hlen
            refine ⟨v, w, rfl, ?_⟩
            rw [← wp_wp] at g' r1 r2
            have n12 := List.nodup_append.mp nd
            have q1 := g'.put r2 n12.2.1 (fun c m z => z.elim (nw c (List.mem_append_right _ m)) fun z => n12.2.2 c z c m rfl) j
            have q2 := q1.put (v := v) (d := da) (fpv := p1) (r1.move (fun c z => .inl (z.elim (fun z => .inl (.inl z)) fun ⟨k, m⟩ => by
              dsimp only at m
              split at m
              · exact .inl (.inr m)
              · exact .inr ⟨k, m⟩)) fun _ _ q _ _ => q) n12.1 (fun c m => nw c (List.mem_append_left _ m)) i
            rw [List.set_comm _ _ hij.symm, List.set_comm _ _ hij.symm] at q2
            refine hp _ H' _ q2 ⟨@Fram.keep _ _ _ _ _ _ fm, fun k c m => ?_, fun _ m => (nomatch m), fm.back, fm.tb⟩ ((Keep.set hki).trans (Keep.set hkj))
            have m := m
            split at m
            · exact fm.oldv c (List.mem_append_left _ m)
            · split at m
              · exact fm.oldv c (List.mem_append_right _ m)
              · exact fm.old k c m
          · exact hp.elim
    · exact hp.elim
  · rename_i x r' hr
    rw [hr]
    exact fun H' fps' dx g' fm xr => hp σ H' fps' dx g' fm (Keep.refl ks σ) xr
  · exact hp.elim
end
end DL

namespace DL
variable [Tbs]
open PySem L2
/-! ### x.pop(k), x.pop(), x.clear(): x an own list in slot i; what is taken out becomes shared -/
def popD (i : Nat) (j : Nat) (r : Env) : Out (D × Env) := match r[i]? with
  | some (some (.lst true ds)) => match ds[j]? with
    | some d => .ok (frz d, r.set i (some (.lst true (ds.eraseIdx j))))
    | none => .bad
  | _ => .bad
def sPopAt (i : Nat) (f : FX) : FX := fun r => match r[i]? with
  | some (some (.lst true _)) => (f r).bind fun p => match p.1, p.2[i]? with
    | .int k, some (some (.lst true ds)) => match ixN ds.length k with
      | some j => if ds.length ≤ 1000000 then popD i j p.2 else .bad
      | none => .bad
    | _, _ => .bad
  | _ => .bad
section
variable {X : Cx} {cm : Cm} {E : XS} {pos : Pos} {ks : Nat → Bool} {a e : Expr} {f : FX} {W0 : Addr → Prop} {H : Hp} {σ : St} {r : Env} {fps : Fps}
theorem Reps.pick {W : Addr → Prop} : ∀ (j : Nat) {vs : List V} {ds : List D} {fp : List Addr} {d : D}, Reps cm W H vs ds fp → ds[j]? = some d → ∃ v fa fb, vs[j]? = some v ∧ Rep cm W H v d fa ∧ Reps cm W H (vs.eraseIdx j) (ds.eraseIdx j) fb ∧ fb.Sublist fp ∧ (∀ a ∈ fa, a ∈ fp) ∧ (fp.Nodup → ∀ a ∈ fa, a ∉ fb)
  | _, _, _, _, _, .nil, h => nomatch h
  | 0, _, _, _, _, .cons (v := v) (fp := f1) (fps := f2) h r, e => by
    cases e
    exact ⟨v, f1, f2, rfl, h, r, List.sublist_append_right _ _, fun a m => List.mem_append_left _ m, fun nd a m m' => (List.nodup_append.mp nd).2.2 a m a m' rfl⟩
  | j + 1, _, _, _, _, .cons (v := v) (fp := f1) (fps := f2) h r, e => by
    obtain ⟨u, fa, fb, h1, h2, h3, h4, h5, h6⟩ := Reps.pick j r e
    refine ⟨u, fa, f1 ++ fb, h1, h2, .cons h h3, List.Sublist.append (List.Sublist.refl _) h4, fun a m => List.mem_append_right _ (h5 a m), fun nd a m m' => ?_⟩
    have n := List.nodup_append.mp nd
    rcases List.mem_append.mp m' with m' | m'
    · exact n.2.2 a m' a (h5 a m) rfl
    · exact h6 n.2.1 a m m'
/-- the list in slot i without its j-th -/
theorem Good.pop {i j : Nat} {ds : List D} {d : D} {pa : Addr} {vs : List V} {Q : VK} (g : Good cm W0 H σ r fps) (hd : r[i]? = some (some (.lst true ds))) (q1 : σ[i]? = some (some (.ref pa))) (hpa : H pa = some (.lst vs)) (hj : ds[j]? = some d) {H0 : Hp} {f0 : Fps} (m : Fram H0 f0 H fps [])
    (q : QX cm W0 H0 σ f0 Q (frz d, r.set i (some (.lst true (ds.eraseIdx j))))) : ∃ y, vs[j]? = some y ∧ Q y (upd H pa (.lst (vs.eraseIdx j))) := by
  obtain ⟨v1, e1, e2⟩ := g.sl i _ hd
  rw [q1] at e1
  cases e1
  obtain ⟨pa', vs', fp, e3, hpa', hfp, hr⟩ := e2.lstOf
  cases e3
  rw [hpa] at hpa'
  cases hpa'
  obtain ⟨v, fa, fb, p1, p2, p3, p4, p5, p6⟩ := Reps.pick j hr hj
  refine ⟨v, p1, ?_⟩
  have hmem : pa ∈ fps i := by rw [hfp]; exact List.mem_cons_self ..
  have nd1 := g.nd i
  rw [hfp] at nd1
  have nd2 := List.nodup_cons.mp nd1
  have hin : ∀ a ∈ fp, a ∈ fps i := fun a m => by rw [hfp]; exact List.mem_cons_of_mem _ m
  have hsub : ∀ a ∈ fb, a ∈ fps i ∨ a ∈ ([] : List Addr) := fun a m => .inl (hin a (p4.subset m))
  have hnp : pa ∉ fb := fun m => nd2.1 (p4.subset m)
  have hnd : fb.Nodup := p4.nodup nd2.2
  have p3' : Reps cm (Wof (Wp W0 []) fps) H (vs.eraseIdx j) (ds.eraseIdx j) fb := by rw [wp_nil]; exact p3
  have g' : Good cm (Wp W0 []) H σ r fps := by rw [wp_nil]; exact g
  have g2 := g'.mut q1 ⟨_, hpa⟩ hmem p3' hsub hnp hnd (fun _ m => nomatch m)
  have m2 := Fram.mut (o := .lst (vs.eraseIdx j)) m hmem ⟨_, hpa, rfl⟩ hsub
  have hno : ∀ a ∈ fa, ¬ Wof W0 (fun k => if k = i then pa :: fb else fps k) a := by
    intro a ma z
    rcases z with z | ⟨k, z⟩
    · exact g.nw i a (hin a (p5 a ma)) z
    · simp only [] at z
      split at z
      · rcases List.mem_cons.mp z with rfl | z
        · exact nd2.1 (p5 _ ma)
        · exact p6 nd2.2 a ma z
      · rename_i hk
        exact hk (g.dj k i a z (hin a (p5 a ma)))
  have r1 : Rep cm (Wof W0 (fun k => if k = i then pa :: fb else fps k)) H v (frz d) [] := p2.frz (fun a z => by
    rcases z with z | ⟨k, z⟩
    · exact .inl z
    · simp only [] at z
      split at z
      · rcases List.mem_cons.mp z with rfl | z
        · exact .inr ⟨i, hmem⟩
        · exact .inr ⟨i, hin a (p4.subset z)⟩
      · exact .inr ⟨k, z⟩) hno
  have r2 : Rep cm (Wof W0 (fun k => if k = i then pa :: fb else fps k)) (upd H pa (.lst (vs.eraseIdx j))) v (frz d) [] := r1.move (fun _ z => .inl z) fun a o z _ w => by
    rw [upd_ne]
    · exact z
    · rintro rfl
      rcases w with w | w
      · exact w (.inr ⟨i, by simp⟩)
      · cases w
  exact q v _ _ [] (by rw [wp_nil]; exact g2) (by rw [wp_nil]; exact r2) List.nodup_nil (fun _ m => nomatch m) m2
theorem xe_popAt (i : Nat) {apos : Pos} (hv : PE X a (tVar i)) (h1 : XE X cm E e f) (hbase : attributeBase a "pop" X.env (eval a X.env) = eval a X.env := by rfl)
    (hfew : ((backTo pos (starEach [e] X.env)).all (fun x => !x.1) && (backToKw pos (keywordEach [] X.env)).all (fun x => x.1.isSome) && decide ([e].length + ([] : List Keyword).length + (if ([] : List Keyword).isEmpty then 0 else 1) < 30)) = true := by rfl)
    (hline : (apos.endLine == pos.line) = true := by rfl) (hs : starEach [e] X.env = (false, eval e X.env) :: starEach [] X.env := by rfl) (hplain : (backTo pos (starEach [] X.env)).any (·.1) = false := by rfl) :
    XE X cm E (.Call (.Attribute a "pop" apos) [e] [] pos) (sPopAt i f) := by
  obtain ⟨te, a1, a2⟩ := h1.ex
  refine ⟨_, pe_bm PySem.F.plainAttrs_list PySem.F.slot_list_pop PySem.F.type_list_pop mt_popAt hv (pa_cons a1 pa_nil hs) hbase hfew hline hs hplain, fun W0 H σ r fps gd Q hp => ?_⟩
  unfold sPopAt at hp
  split at hp
  · rename_i ds0 hd0
    obtain ⟨v0, q1, q2⟩ := gd.sl i _ hd0
    obtain ⟨pa, vs0, fp0, rfl, hpa0, hfp0, _⟩ := q2.lstOf
    refine ⟨_, q1, .inl ⟨rfl, _, SqL.of hpa0⟩, ?_⟩
    refine a2 W0 H σ r fps gd _ (hp.bind.mono (fun pp q v H1 f1 p1 g1 k1 n1 w1 m1 => ?_) fun _ _ z => z)
    split at q
    · rename_i k ds hk hd
      split at q
      · rename_i j hj
        split at q
        · rename_i hl
          rw [hk] at k1
          cases k1
          unfold popD at q
          rw [hd] at q
          simp only [] at q
          split at q
          · rename_i d hdj
            rw [wp_nil] at g1
            obtain ⟨v1, e1, e2⟩ := g1.sl i _ hd
            rw [q1] at e1
            cases e1
            obtain ⟨pa', vs, fp, e3, hpa, hfp, hr⟩ := e2.lstOf
            cases e3
            obtain ⟨y, y1, y2⟩ := g1.pop hd q1 hpa hdj m1 q
            have hn := hr.len
            obtain ⟨z1, z2, z3, z4⟩ := ixN_seq hj
            have hsz : (ds.length : Int) ≤ 1000000 := by omega
            exact ⟨pa, vs, k, j, y, rfl, rfl, hpa, by omega, by omega, by rw [hn]; exact z1, y1, y2⟩
          · exact q.elim
        · exact q.elim
      · exact q.elim
    · exact q.elim
  · exact hp.elim
end
end DL

namespace DL
variable [Tbs]
open PySem L2
/-! ### order of data that are alike -/
def isNonD : D → Bool
  | .non => true
  | _ => false
def ordOk (x y : D) : Bool := plainD x && plainD y && dle 60 x && dle 60 y && W.alike (toPy x) (toPy y) && !isNonD x
abbrev ltD (x y : D) : Bool := W.dataLt (toPy x) (toPy y)
theorem toPy_non {x : D} (p : plainD x = true) (h : isNonD x = false) : toPy x ≠ .none := by
  cases x <;> simp [toPy, plainD, isNonD] at *
section
variable {X : Cx} {cm : Cm} {E : XS} {b : Bool} {pos p : Pos} {a c : Expr} {fa fb : F}
def rOrd (K : PySem.W.Frag) (g : PyData → PyData → Bool) : R2 := fun x y H Q => ∃ d e, Dp K H x d ∧ Dp K H y e ∧ W.alike d e = true ∧ d ≠ .none ∧ d.depth ≤ 60 ∧ Q (.bl (g d e)) H
theorem op_ordX {op : CmpOp} {g : PyData → PyData → Bool} (hu : X.A.units + 64 < cLine) (h : ∀ {prog : Program} {w : World} {A : Around} {E : Value → Shared → Prop} {s : Shared} {a b : Value} {da db : PyData} {as bs : List Addr} {Q : Value → Shared → Prop}, Reads s.heap a da as → Reads s.heap b db bs → W.alike da db = true → da ≠ .none → A.units + min da.depth db.depth < cLine → Q (.bool (g da db)) s → wpAny (model prog w) A (compareOp op a b) Q E s) : OpR X (compareOp op) (rOrd X.K g) := by
  intro pins s σ H x y v u Q I rx ry z
  obtain ⟨d, e, hd, he, al, nn, hl, q⟩ := z
  obtain ⟨as, r1⟩ := Dp.reads I d x v hd rx
  obtain ⟨bs, r2⟩ := Dp.reads I e y u he ry
  have : min d.depth e.depth ≤ d.depth := Nat.min_le_left _ _
  exact h r1 r2 al nn (by omega) ⟨.bl _, H, I, rfl, q⟩
theorem op_ltD (hu : X.A.units + 64 < cLine) : OpR X (compareOp .Lt) (rOrd X.K fun d e => W.dataLt d e) := op_ordX hu W.lt_data
theorem op_gtD (hu : X.A.units + 64 < cLine) : OpR X (compareOp .Gt) (rOrd X.K fun d e => W.dataLt e d) := op_ordX hu W.gt_data
theorem op_leD (hu : X.A.units + 64 < cLine) : OpR X (compareOp .LtE) (rOrd X.K fun d e => !W.dataLt e d) := op_ordX hu W.le_data
theorem op_geD (hu : X.A.units + 64 < cLine) : OpR X (compareOp .GtE) (rOrd X.K fun d e => !W.dataLt d e) := op_ordX hu W.ge_data
def gOrd (g : D → D → Bool) : D → D → Out D := fun x y => if ordOk x y = true then .ok (.bl (g x y)) else .bad
abbrev gLtD := gOrd fun x y => ltD x y
abbrev gGtD := gOrd fun x y => ltD y x
abbrev gLeD := gOrd fun x y => !ltD y x
abbrev gGeD := gOrd fun x y => !ltD x y
theorem o_ord {g : PyData → PyData → Bool} : Op2' cm b (rOrd X.K g) (gOrd fun x y => g (toPy x) (toPy y)) := fun W H x y dx dy w rx ry Q hp => by
  unfold gOrd at hp
  split at hp
  · rename_i h
    simp only [ordOk, Bool.and_eq_true, Bool.not_eq_true'] at h
    obtain ⟨⟨⟨⟨⟨h1, h2⟩, h3⟩, _⟩, h4⟩, h5⟩ := h
    exact ⟨toPy dx, toPy dy, rx.dp h1, ry.dp h2, h4, toPy_non h1 h5, dle_py _ _ h1 h3, hp _ H [] (Ex.refl H) (.bl _) FpN.nil⟩
  · exact hp.elim
theorem noEx_ord {g : D → D → Bool} : NoEx (gOrd g) := fun a b x r h => by
  unfold gOrd at h
  split at h <;> cases h
theorem de_ltD (hu : X.A.units + 64 < cLine) (ha : DE X cm E false a fa) (hb : DE X cm E false c fb) : DE X cm E b (.Compare a [.Lt] [c] pos) (c2 gLtD fa fb) := de_cmp (op_ltD hu) o_ord noEx_ord (nomark _) ha hb
theorem de_gtD (hu : X.A.units + 64 < cLine) (ha : DE X cm E false a fa) (hb : DE X cm E false c fb) : DE X cm E b (.Compare a [.Gt] [c] pos) (c2 gGtD fa fb) := de_cmp (op_gtD hu) o_ord noEx_ord (nomark _) ha hb
theorem de_leD (hu : X.A.units + 64 < cLine) (ha : DE X cm E false a fa) (hb : DE X cm E false c fb) : DE X cm E b (.Compare a [.LtE] [c] pos) (c2 gLeD fa fb) := de_cmp (op_leD hu) o_ord noEx_ord (nomark _) ha hb
theorem de_geD (hu : X.A.units + 64 < cLine) (ha : DE X cm E false a fa) (hb : DE X cm E false c fb) : DE X cm E b (.Compare a [.GtE] [c] pos) (c2 gGeD fa fb) := de_cmp (op_geD hu) o_ord noEx_ord (nomark _) ha hb
theorem dt_ltD (hu : X.A.units + 64 < cLine) (ha : DE X cm E false a fa) (hb : DE X cm E false c fb) : DT X cm E (.Compare a [.Lt] [c] pos) (tB (c2 gLtD fa fb)) := dt_cmp (op_ltD hu) o_ord noEx_ord (nomark _) ha hb
theorem dt_gtD (hu : X.A.units + 64 < cLine) (ha : DE X cm E false a fa) (hb : DE X cm E false c fb) : DT X cm E (.Compare a [.Gt] [c] pos) (tB (c2 gGtD fa fb)) := dt_cmp (op_gtD hu) o_ord noEx_ord (nomark _) ha hb
theorem dt_leD (hu : X.A.units + 64 < cLine) (ha : DE X cm E false a fa) (hb : DE X cm E false c fb) : DT X cm E (.Compare a [.LtE] [c] pos) (tB (c2 gLeD fa fb)) := dt_cmp (op_leD hu) o_ord noEx_ord (nomark _) ha hb
theorem dt_geD (hu : X.A.units + 64 < cLine) (ha : DE X cm E false a fa) (hb : DE X cm E false c fb) : DT X cm E (.Compare a [.GtE] [c] pos) (tB (c2 gGeD fa fb)) := dt_cmp (op_geD hu) o_ord noEx_ord (nomark _) ha hb
end
/-! ### max, min of two -/
section
variable {prog : Program} {w : World} {A : Around} {E : Value → Shared → Prop} {s : Shared}
theorem iter_pair {a b : Value} {Q : Value → Shared → Prop} (hh : A.handled = none)
    (h : ∀ (I : Addr) (s₂ : Shared) (St : Nat → Shared → Prop), WalksS prog w A I [I, s.heap.objs.size] [I] (fun x y => y = x) 2 (fun i v => #[a, b][i]? = some v) St → St 0 s₂ → (∀ c ∈ [I, s.heap.objs.size], c < s₂.heap.objs.size) → (∀ c o, s.heap.get? c = some o → c ∉ [I]) → (∀ c o, s.heap.get? c = some o → s₂.heap.get? c = some o) →
      (∀ s', Moved [I] (fun x y => y = x) s₂ s' → ∃ h' tk, s' = { s with heap := h', toks := tk } ∧ ∀ c o, s.heap.get? c = some o → h'.get? c = some o) → Q (.ref I) s₂) :
    wpAny (model prog w) A (pyIter (.ref s.heap.objs.size)) Q E { s with heap := s.heap.push { cls := .type "tuple", data := .seq #[a, b] } } := by
  have hT : (s.heap.push { cls := .type "tuple", data := .seq #[a, b] }).IsTuple s.heap.objs.size #[a, b] := ⟨_, Heap.get?_push_size _ rfl, rfl, 0, rfl⟩
  refine W.iter_tupleW (s := { s with heap := s.heap.push { cls := .type "tuple", data := .seq #[a, b] } }) hh hT ?_
  intro s₂ e W0 st hfp hw hk
  refine h _ s₂ _ W0 st hfp (fun c o q => hw c o (Heap.get?_push_of_some _ q)) (fun c o q => hk c o (Heap.get?_push_of_some _ q)) fun s' m => ?_
  obtain ⟨h', tk, rfl, k'⟩ := W.moved_old e rfl m
  exact ⟨h', tk, rfl, fun c o q => k' c o (Heap.get?_push_of_some _ q)⟩
theorem cmp_pair {op : CmpOp} {g : PyData → PyData → Bool} {a b : Value} {da db : PyData} {as bs : List Addr} (ra : Reads s.heap a da as) (rb : Reads s.heap b db bs) (haa : W.alike da da = true) (hbb : W.alike db db = true) (hab : W.alike da db = true) (hba : W.alike db da = true) (na : da ≠ .none) (nb : db ≠ .none) (hu : A.units + 64 < cLine) (la : da.depth ≤ 60) (lb : db.depth ≤ 60)
    (h : ∀ (da db : PyData) (A : Around) (s : Shared) (a b : Value) (as bs : List Addr), Reads s.heap a da as → Reads s.heap b db bs → W.alike da db = true → da ≠ .none → A.units + min da.depth db.depth < cLine → ∀ (prog : Program) (w : World) (E : Value → Shared → Prop) (Q : Value → Shared → Prop), Q (.bool (g da db)) s → wpAny (model prog w) A (richCompare op a b) Q E s) :
    CmpIn prog w A op s.heap (fun i v => #[a, b][i]? = some v) (fun i j => g ([da, db].getD i .none) ([da, db].getD j .none)) := by
  intro i j vi vj s' Q E hk hi hj hq
  have pick : ∀ (i : Nat) (v : Value), #[a, b][i]? = some v → (i = 0 ∧ v = a) ∨ (i = 1 ∧ v = b) := by
    intro i v hv
    match i, hv with
    | 0, hv => exact .inl ⟨rfl, by simpa using hv.symm⟩
    | 1, hv => exact .inr ⟨rfl, by simpa using hv.symm⟩
    | i + 2, hv => simp at hv
  have ra' := W.reads_keeps hk ra
  have rb' := W.reads_keeps hk rb
  rcases pick i vi hi with ⟨rfl, rfl⟩ | ⟨rfl, rfl⟩ <;> rcases pick j vj hj with ⟨rfl, rfl⟩ | ⟨rfl, rfl⟩
  · exact h da da A s' _ _ _ _ ra' ra' haa na (by omega) prog w E Q hq
  · exact h da db A s' _ _ _ _ ra' rb' hab na (by omega) prog w E Q hq
  · exact h db da A s' _ _ _ _ rb' ra' hba nb (by omega) prog w E Q hq
  · exact h db db A s' _ _ _ _ rb' rb' hbb nb (by omega) prog w E Q hq
theorem max_two_data {a b : Value} {da db : PyData} {as bs : List Addr} {Q : Value → Shared → Prop} (hh : A.handled = none) (ra : Reads s.heap a da as) (rb : Reads s.heap b db bs) (haa : W.alike da da = true) (hbb : W.alike db db = true) (hab : W.alike da db = true) (hba : W.alike db da = true) (na : da ≠ .none) (nb : db ≠ .none) (hu : A.units + 70 < cLine) (la : da.depth ≤ 60) (lb : db.depth ≤ 60)
    (h : ∀ h' tk, (∀ c o, s.heap.get? c = some o → h'.get? c = some o) → Q (if W.dataLt da db = true then b else a) { s with heap := h', toks := tk }) : wpAny (model prog w) A (call (.builtin "max") [a, b]) Q E s := by
  have hname : (toString "max" ++ toString ".loop" : String) = "max.loop" := by decide
  apply call_function_tree F.kind_max F.plain_max F.entry_max (F.args_max2 _ _)
  show wpAny _ A.in1 (Builtin.Builtins.bindParams "max" ["key", "default"] 0 ⟨[], []⟩ >>= _) _ _ s
  apply wpAny_bind
  apply wpAny_of_eq (a := [none, none]) (show Builtin.Builtins.bindParams "max" ["key", "default"] 0 ⟨[], []⟩ = pure [none, none] from rfl)
  show wpAny _ A.in1 (newTuple [a, b] >>= _) _ _ s
  apply wpAny_bind
  refine wpAny_newObj_type ?_
  apply wpAny_bind
  apply iter_pair (A := A.in1) hh
  intro I s₂ St Wk st hfp hw hk old
  apply wpAny_bind
  refine wpAny_newObj_type ?_
  have hSf : s₂.heap.objs.size ∉ [I, s.heap.objs.size] := fun hm => Nat.lt_irrefl _ (hfp _ hm)
  rw [hname]
  apply wpAny_pure
  refine ⟨plainId_quiet F.plain_max_loop _, codeAny_max_loop_firstH Wk s.heap hw _ (cmp_pair (A := A.in1) (op := .Gt) (g := fun x y => W.dataLt y x) ra rb haa hbb hab hba na nb (by show A.units + 1 + 64 < cLine; omega) la lb (fun da db A s a b as bs => W.rcGt_alike da db A s a b as bs)) s₂.heap.objs.size hSf (fresh_in hk) _ (by decide) (fun c o e => Heap.get?_push_of_some _ (hk c o e)) (Wk.frame 0 s₂ _ s₂.toks st (Nat.le_refl _) fun c _ o e => Heap.get?_push_of_some _ e) (Heap.get?_push_size _ rfl) ?_⟩
  intro v s' hP hm
  obtain ⟨h', tk, rfl, k'⟩ := old s' (Moved.drop_new (tk := s₂.toks) hm (Nat.le_refl _))
  have e : v = if W.dataLt da db = true then b else a := by
    simp only [argBest, Nat.reduceSub] at hP
    by_cases q : W.dataLt da db = true
    · rw [if_pos q]; simp [q] at hP; exact hP.symm
    · rw [if_neg q]; simp [q] at hP; exact hP.symm
  rw [e]
  exact h h' tk k'
theorem min_two_data {a b : Value} {da db : PyData} {as bs : List Addr} {Q : Value → Shared → Prop} (hh : A.handled = none) (ra : Reads s.heap a da as) (rb : Reads s.heap b db bs) (haa : W.alike da da = true) (hbb : W.alike db db = true) (hab : W.alike da db = true) (hba : W.alike db da = true) (na : da ≠ .none) (nb : db ≠ .none) (hu : A.units + 70 < cLine) (la : da.depth ≤ 60) (lb : db.depth ≤ 60)
    (h : ∀ h' tk, (∀ c o, s.heap.get? c = some o → h'.get? c = some o) → Q (if W.dataLt db da = true then b else a) { s with heap := h', toks := tk }) : wpAny (model prog w) A (call (.builtin "min") [a, b]) Q E s := by
  have hname : (toString "min" ++ toString ".loop" : String) = "min.loop" := by decide
  apply call_function_tree F.kind_min F.plain_min F.entry_min (F.args_min2 _ _)
  show wpAny _ A.in1 (Builtin.Builtins.bindParams "min" ["key", "default"] 0 ⟨[], []⟩ >>= _) _ _ s
  apply wpAny_bind
  apply wpAny_of_eq (a := [none, none]) (show Builtin.Builtins.bindParams "min" ["key", "default"] 0 ⟨[], []⟩ = pure [none, none] from rfl)
  show wpAny _ A.in1 (newTuple [a, b] >>= _) _ _ s
  apply wpAny_bind
  refine wpAny_newObj_type ?_
  apply wpAny_bind
  apply iter_pair (A := A.in1) hh
  intro I s₂ St Wk st hfp hw hk old
  apply wpAny_bind
  refine wpAny_newObj_type ?_
  have hSf : s₂.heap.objs.size ∉ [I, s.heap.objs.size] := fun hm => Nat.lt_irrefl _ (hfp _ hm)
  rw [hname]
  apply wpAny_pure
  refine ⟨plainId_quiet F.plain_min_loop _, codeAny_min_loop_firstH Wk s.heap hw _ (cmp_pair (A := A.in1) (op := .Lt) (g := fun x y => W.dataLt x y) ra rb haa hbb hab hba na nb (by show A.units + 1 + 64 < cLine; omega) la lb (fun da db A s a b as bs => W.rcLt_alike da db A s a b as bs)) s₂.heap.objs.size hSf (fresh_in hk) _ (by decide) (fun c o e => Heap.get?_push_of_some _ (hk c o e)) (Wk.frame 0 s₂ _ s₂.toks st (Nat.le_refl _) fun c _ o e => Heap.get?_push_of_some _ e) (Heap.get?_push_size _ rfl) ?_⟩
  intro v s' hP hm
  obtain ⟨h', tk, rfl, k'⟩ := old s' (Moved.drop_new (tk := s₂.toks) hm (Nat.le_refl _))
  have e : v = if W.dataLt db da = true then b else a := by
    simp only [argBest, Nat.reduceSub] at hP
    by_cases q : W.dataLt db da = true
    · rw [if_pos q]; simp [q] at hP; exact hP.symm
    · rw [if_neg q]; simp [q] at hP; exact hP.symm
  rw [e]
  exact h h' tk k'
end
end DL

namespace DL
variable [Tbs]
open PySem L2
section
variable {X : Cx} {cm : Cm} {E : XS} {b : Bool} {pos p : Pos} {a c : Expr}
/-! ### max(x, y), min(x, y) of alike data -/
def ordOk2 (x y : D) : Bool := ordOk x y && ordOk y x && ordOk x x && ordOk y y
def rPick (K : PySem.W.Frag) (g : PyData → PyData → Bool) : List V → Hp → VK → Prop := fun xs H Q => ∃ x y d e, xs = [x, y] ∧ Dp K H x d ∧ Dp K H y e ∧ W.alike d d = true ∧ W.alike e e = true ∧ W.alike d e = true ∧ W.alike e d = true ∧ d ≠ .none ∧ e ≠ .none ∧ d.depth ≤ 60 ∧ e.depth ≤ 60 ∧ Q (if g d e = true then y else x) H
theorem call_maxD (hc : X.calm = true) (hu : X.A.units + 70 < cLine) : CallR X (.builtin "max") (rPick X.K fun d e => W.dataLt d e) := by
  intro pins s σ H xs us Q I r h
  obtain ⟨x, y, d, e, rfl, hd, he, h1, h2, h3, h4, n1, n2, l1, l2, q⟩ := h
  obtain ⟨u, v, rfl, rx, ry⟩ := vals2 r
  obtain ⟨as, r1⟩ := Dp.reads I d x u hd rx
  obtain ⟨bs, r2⟩ := Dp.reads I e y v he ry
  refine max_two_data (I.ok.hd hc) r1 r2 h1 h2 h3 h4 n1 n2 hu l1 l2 fun h' tk k => ⟨_, H, I.kept k, ?_, q⟩
  split
  · exact ry
  · exact rx
theorem call_minD (hc : X.calm = true) (hu : X.A.units + 70 < cLine) : CallR X (.builtin "min") (rPick X.K fun d e => W.dataLt e d) := by
  intro pins s σ H xs us Q I r h
  obtain ⟨x, y, d, e, rfl, hd, he, h1, h2, h3, h4, n1, n2, l1, l2, q⟩ := h
  obtain ⟨u, v, rfl, rx, ry⟩ := vals2 r
  obtain ⟨as, r1⟩ := Dp.reads I d x u hd rx
  obtain ⟨bs, r2⟩ := Dp.reads I e y v he ry
  refine min_two_data (I.ok.hd hc) r1 r2 h1 h2 h3 h4 n1 n2 hu l1 l2 fun h' tk k => ⟨_, H, I.kept k, ?_, q⟩
  split
  · exact ry
  · exact rx
def gPick (g : D → D → Bool) : List D → Out D
  | [x, y] => if ordOk2 x y = true then .ok (if g x y = true then y else x) else .bad
  | _ => .bad
abbrev gMxD := gPick fun x y => ltD x y
abbrev gMnD := gPick fun x y => ltD y x
theorem Reps.two {W : Addr → Prop} {H : Hp} {vs : List V} {x y : D} (h : Reps cm W H vs [x, y] []) : ∃ u v, vs = [u, v] ∧ Rep cm W H u x [] ∧ Rep cm W H v y [] := by
  generalize hf : ([] : List Addr) = fp at h
  cases h with
  | cons k1 k2 =>
    rename_i f1 vs' f2
    have e1 : f1 = [] := (List.append_eq_nil_iff.mp hf.symm).1
    have e2 : f2 = [] := (List.append_eq_nil_iff.mp hf.symm).2
    subst e1
    generalize hg : f2 = g at k2
    cases k2 with
    | cons k2 k3 =>
      rename_i f3 vs'' f4
      cases k3
      rw [e2] at hg
      have e3 : f3 = [] := (List.append_eq_nil_iff.mp hg.symm).1
      subst e3
      exact ⟨_, _, rfl, k1, k2⟩
theorem ra_pick {g : PyData → PyData → Bool} : RA cm b (rPick X.K g) (gPick fun x y => g (toPy x) (toPy y)) := fun W H vs ds w rp Q hp => by
  unfold gPick at hp
  split at hp
  · rename_i x y
    split at hp
    · rename_i h
      simp only [ordOk2, ordOk, Bool.and_eq_true, Bool.not_eq_true'] at h
      obtain ⟨⟨⟨⟨⟨⟨⟨⟨h1, h2⟩, h3⟩, h4⟩, h5⟩, h6⟩, ⟨⟨_, h7⟩, h8⟩⟩, ⟨⟨_, h9⟩, _⟩⟩, ⟨⟨_, h10⟩, _⟩⟩ := h
      obtain ⟨u, v, rfl, k1, k2⟩ := rp.two
      refine ⟨u, v, toPy x, toPy y, rfl, k1.dp h1, k2.dp h2, h9, h10, h5, h7, toPy_non h1 h6, toPy_non h2 h8, dle_py _ _ h1 h3, dle_py _ _ h2 h4, hp _ H [] (Ex.refl H) ?_ FpN.nil⟩
      split
      · exact k2.toP
      · exact k1.toP
    · exact hp.elim
  · exact hp.elim
theorem noEx_pick {g : D → D → Bool} : NoExA (gPick g) := fun a x r h => by
  unfold gPick at h
  split at h
  · split at h <;> cases h
  · cases h
theorem de_maxD {fs : Env → Out (List D)} (hc : X.calm = true) (hu : X.A.units + 70 < cLine) (hg : Gl X "max") (hm : X.mg "max" = none) (ha : DA X cm E false [a, c] fs) (he : starEach [a, c] X.env = (false, eval a X.env) :: starEach [c] X.env := by rfl) (hpl : (backTo pos (starEach [c] X.env)).any (·.1) = false := by rfl) : DE X cm E b (.Call (.Name "max" p) [a, c] [] pos) (cA gMxD fs) :=
  de_blt (call_maxD hc hu) ra_pick noEx_pick hg hm (by decide +kernel) ha (by decide) (by decide) he hpl
theorem de_minD {fs : Env → Out (List D)} (hc : X.calm = true) (hu : X.A.units + 70 < cLine) (hg : Gl X "min") (hm : X.mg "min" = none) (ha : DA X cm E false [a, c] fs) (he : starEach [a, c] X.env = (false, eval a X.env) :: starEach [c] X.env := by rfl) (hpl : (backTo pos (starEach [c] X.env)).any (·.1) = false := by rfl) : DE X cm E b (.Call (.Name "min" p) [a, c] [] pos) (cA gMnD fs) :=
  de_blt (call_minD hc hu) ra_pick noEx_pick hg hm (by decide +kernel) ha (by decide) (by decide) he hpl
end
theorem RoomG.un70 {k : Nat} {A : Around} (r : RoomG k A) : A.units + 70 < cLine := by have := r.rm.un; omega
/-! ### repr of plain data -/
mutual
def shortD : D → Bool
  | .int i => decide (i.natAbs < 10 ^ 40)
  | .str x => x.all fun c => decide (c < 1114112)
  | .lst _ xs => shortDs xs
  | .tup xs => shortDs xs
  | _ => true
def shortDs : List D → Bool
  | [] => true
  | x :: xs => shortD x && shortDs xs
end
mutual
def bulkD : D → Nat
  | .str x => x.length
  | .lst _ xs => bulkDs xs
  | .tup xs => bulkDs xs
  | _ => 0
def bulkDs : List D → Nat
  | [] => 0
  | x :: xs => bulkD x + 1 + bulkDs xs
end
mutual
theorem bulk_py : ∀ d : D, plainD d = true → (toPy d).bulk = bulkD d
  | .non, _ => rfl
  | .bl _, _ => rfl
  | .int _, _ => rfl
  | .str x, _ => by simp [toPy, PyData.bulk, bulkD]
  | .lst _ xs, h => by simp only [toPy, PyData.bulk, bulkD]; exact bulks_py xs h
  | .tup xs, h => by simp only [toPy, PyData.bulk, bulkD]; exact bulks_py xs h
  | .dK _ _ _, h => nomatch h
  | .dT _ _ _, h => nomatch h
  | .obj _ _ _ _, h => nomatch h
  | .scr _, h => nomatch h
theorem bulks_py : ∀ xs : List D, plainDs xs = true → PyData.bulkAll (toPys xs) = bulkDs xs
  | [], _ => rfl
  | x :: xs, h => by
    simp only [plainDs, Bool.and_eq_true] at h
    simp only [toPys, PyData.bulkAll, bulkDs]
    rw [bulk_py x h.1, bulks_py xs h.2]
end
theorem short_int {i : Int} (h : i.natAbs < 10 ^ 40) : (PyData.shown (.int i)).length ≤ 45 := by
  have e := int_text_length_le10 (k := 40) (by decide) h
  show (Str.ofString (toString i)).length ≤ 45
  rw [ofString_length]; omega
mutual
theorem short_py : ∀ d : D, plainD d = true → shortD d = true → (toPy d).leavesShort 45 = true ∧ (toPy d).showable = true ∧ (toPy d).hasDict = false
  | .non, _, _ => ⟨rfl, rfl, rfl⟩
  | .bl _, _, _ => ⟨rfl, rfl, rfl⟩
  | .int i, _, h => by
    simp only [shortD, decide_eq_true_eq] at h
    refine ⟨?_, ?_, rfl⟩
    · simp only [toPy, PyData.leavesShort, decide_eq_true_eq]
      exact short_int h
    · simp only [toPy, PyData.showable, decide_eq_true_eq]
      by_cases z : i.natAbs = 0
      · rw [z]; decide
      · exact (Nat.log2_lt z).mpr (Nat.lt_of_lt_of_le (Nat.lt_trans h (show 10 ^ 40 < 2 ^ 200 by decide)) (Nat.pow_le_pow_right (by decide) (by decide)))
  | .str x, _, h => by
    refine ⟨?_, rfl, rfl⟩
    simp only [shortD, List.all_eq_true, decide_eq_true_eq] at h
    simp only [toPy, PyData.leavesShort, List.all_eq_true, decide_eq_true_eq]
    intro c hc
    exact Nat.lt_trans (h c (by simpa using hc)) (by decide)
  | .lst _ xs, p, h => by
    have := shorts_py xs p h
    simp only [toPy, PyData.leavesShort, PyData.showable, PyData.hasDict]
    exact this
  | .tup xs, p, h => by
    have := shorts_py xs p h
    simp only [toPy, PyData.leavesShort, PyData.showable, PyData.hasDict]
    exact this
  | .dK _ _ _, h, _ => nomatch h
  | .dT _ _ _, h, _ => nomatch h
  | .obj _ _ _ _, h, _ => nomatch h
  | .scr _, h, _ => nomatch h
theorem shorts_py : ∀ xs : List D, plainDs xs = true → shortDs xs = true → PyData.leavesShortAll 45 (toPys xs) = true ∧ PyData.showableAll (toPys xs) = true ∧ PyData.hasDictAll (toPys xs) = false
  | [], _, _ => ⟨rfl, rfl, rfl⟩
  | x :: xs, p, h => by
    simp only [plainDs, Bool.and_eq_true] at p
    simp only [shortDs, Bool.and_eq_true] at h
    obtain ⟨a1, a2, a3⟩ := short_py x p.1 h.1
    obtain ⟨b1, b2, b3⟩ := shorts_py xs p.2 h.2
    simp [toPys, PyData.leavesShortAll, PyData.showableAll, PyData.hasDictAll, a1, a2, a3, b1, b2, b3]
end
def reprOk (d : D) : Bool := plainD d && dle 60 d && shortD d && decide (bulkD d ≤ 20000)
def reprL (d : D) : List Nat := (toPy d).shown.cps.toList
def emptyK : D → Bool
  | .dK _ [] [] => true
  | _ => false
def gRepr : D → Out D := fun d => if reprOk d = true then .ok (.str (reprL d)) else if emptyK d = true then .ok (.str [123, 125]) else .bad
section
variable {X : Cx} {cm : Cm} {E : XS} {b : Bool} {pos p : Pos} {a c : Expr}
def rRepr (K : PySem.W.Frag) : List V → Hp → VK → Prop := fun xs H Q => ∃ x d, xs = [x] ∧ Dp K H x d ∧ d.showable = true ∧ d.hasDict = false ∧ d.depth ≤ 60 ∧ d.shown.length ≤ sizeLine ∧ Q (.str d.shown) H
/-- of an empty dict -/
theorem call_reprK (hg : X.A.guards = some []) (hu : X.A.units + 64 < cLine) : CallR X (.builtin "repr") (fun xs H Q => ∃ p, xs = [.ref p] ∧ Rd H p (.dK []) ∧ Q (.str ⟨[123, 125].toArray⟩) H) := by
  intro pins s σ H xs us Q I r h
  obtain ⟨p, rfl, hd, q⟩ := h
  obtain ⟨u, rfl, rx⟩ := vals1 r
  cases (show u = Value.ref p from rx)
  obtain ⟨_, hS, vs, kv, o, es, ep, h1, h2, h3, h4, h5, h6⟩ := dk_rd I.hok hd
  cases kv
  have hes : es.toList = [] := List.length_eq_zero_iff.mp (by have := h5.length; simpa using this)
  have r1 : Reads s.heap (.ref p) (.dict []) (p :: [] ++ []) := .dict h1 h2.1 h3 (by rw [hes]; exact .nil) (by rw [hes]; exact .nil)
  have fin : ∀ h' u tk, (∀ b o, s.heap.get? b = some o → h'.get? b = some o) → EP X pins σ Q (.str (PyData.dict []).shown u) { s with heap := h', toks := tk } := fun h' u tk k => ⟨.str ⟨[123, 125].toArray⟩, H, I.kept k, ⟨u, rfl⟩, q⟩
  exact repr_of_reads' r1 rfl (fun _ m => by
    have : sysModules = p := by simpa using m
    rw [this] at hS
    simp at hS) hg (by show X.A.units + (PyData.depth (.dict []) + 1) < cLine; have : PyData.depth (.dict []) ≤ 1 := by decide
                       omega) (fun _ _ e => e) fin (by decide)
theorem call_reprD (hg : X.A.guards = some []) (hu : X.A.units + 64 < cLine) : CallR X (.builtin "repr") (rRepr X.K) := by
  intro pins s σ H xs us Q I r h
  obtain ⟨x, d, rfl, hd, h1, h2, h3, h4, q⟩ := h
  obtain ⟨u, rfl, rx⟩ := vals1 r
  obtain ⟨as, r1⟩ := Dp.reads I d x u hd rx
  have fin : ∀ h' u tk, (∀ b o, s.heap.get? b = some o → h'.get? b = some o) → EP X pins σ Q (.str d.shown u) { s with heap := h', toks := tk } := fun h' u tk k => ⟨.str d.shown, H, I.kept k, ⟨u, rfl⟩, q⟩
  have fin0 : ∀ tk, EP X pins σ Q (.str d.shown s.toks) { s with toks := tk } := fun tk => fin s.heap _ tk fun _ _ e => e
  cases d with
  | none => cases r1; exact P.repr_of_none (fin0 _)
  | bool b => cases r1; exact P.repr_of_bool (fin0 _)
  | int i =>
    cases r1
    exact P.repr_of_int (by simpa [PyData.showable] using h1) (fin0 _)
  | str z => cases r1; exact P.repr_of_str (fin0 _) h4
  | list ys =>
    have : ∃ a, u = .ref a := by cases r1; exact ⟨_, rfl⟩
    obtain ⟨a, rfl⟩ := this
    exact repr_of_reads' r1 h1 (fun z => by rw [h2] at z; cases z) hg (by omega) (fun _ _ e => e) fin h4
  | tuple ys =>
    have : ∃ a, u = .ref a := by cases r1; exact ⟨_, rfl⟩
    obtain ⟨a, rfl⟩ := this
    exact repr_of_reads' r1 h1 (fun z => by rw [h2] at z; cases z) hg (by omega) (fun _ _ e => e) fin h4
  | dict kvs => cases h2
theorem de_repr {fs : Env → Out (List D)} (hg : X.A.guards = some []) (hu : X.A.units + 64 < cLine) (hgl : Gl X "repr") (hm : X.mg "repr" = none) (ha : DA X cm E false [a] fs) (he : starEach [a] X.env = (false, eval a X.env) :: starEach [] X.env := by rfl) (hpl : (backTo pos (starEach [] X.env)).any (·.1) = false := by rfl) : DE X cm E b (.Call (.Name "repr" p) [a] [] pos) (cA (g1 gRepr) fs) :=
  de_blt (CallR.or (call_reprD hg hu) (call_reprK hg hu)) (ra_1 fun W H v d w rp Q hp => by
    unfold gRepr at hp
    split at hp
    · left
      rename_i h
      simp only [reprOk, Bool.and_eq_true, decide_eq_true_eq] at h
      obtain ⟨⟨⟨h1, h2⟩, h3⟩, h4⟩ := h
      obtain ⟨s1, s2, s3⟩ := short_py d h1 h3
      have hb := PyData.shown_le_bulk 45 (by decide) (toPy d) s1
      rw [bulk_py d h1] at hb
      have hl : (toPy d).shown.length ≤ 1000000 := by omega
      refine ⟨v, toPy d, rfl, rp.dp h1, s2, s3, dle_py _ _ h1 h2, Nat.le_trans hl (by decide), hp _ H [] (Ex.refl H) ?_ FpN.nil⟩
      exact Rep.str _
    · split at hp
      · right
        rename_i h
        unfold emptyK at h
        split at h
        · generalize hf : ([] : List Addr) = fp at rp
          cases rp with
          | dKO => cases hf
          | dKF h1 l n rs =>
            cases rs
            exact ⟨_, rfl, h1, hp _ H [] (Ex.refl H) (Rep.str _) FpN.nil⟩
        · cases h
      · exact hp.elim) (fun a x r h => by
      unfold g1 at h
      split at h
      · unfold gRepr at h
        split at h
        · cases h
        · split at h <;> cases h
      · cases h) hgl hm (by decide +kernel) ha (by decide) (by decide) he hpl
end
end DL

namespace DL
variable [Tbs]
open PySem L2
/-! ### raise X('..'): an own class without its own __init__ -/
def sRaise (c : Str) : FS := fun r => .exn ⟨c, [], []⟩ r
/-- what is raised here is wished for at the slots -/
abbrev TakesG (X : Cx) (E : XS) : Prop := Takes X fun cls d σ H => E σ cls d H
theorem TakesG.pass {X : Cx} {E : XS} (t : TakesG X E) : PassG X E := fun σ => passAt t σ
section
variable {X : Cx} {cm : Cm} {E : XS} {pos : Pos} {ks : Nat → Bool}
theorem txB {P : Program} {w : World} {K : PySem.W.Frag} {mg : Str → Option Value} {base : Heap} {N : List Str} {qual : Str} {sc : Scope} {f : Addr} {cdv : Value} {A : Around} {outer : List PySem.Env} {s : Shared} {H : Hp} {E : XK} : TakesG (cxB P w K mg base N qual sc f cdv A outer s H E) (fun _ => E) :=
  takes_of (X := cxB P w K mg base N qual sc f cdv A outer s H E) rfl rfl rfl rfl
/-- an own class of exceptions -/
structure ExcT (K : PySem.W.Frag) (mg : Str → Option Value) (cm : Cm) (c : Str) : Prop where
  g : mg c = some (.ref (cm.cl c))
  x : PySem.W.excIn K (cm.cl c) [.type "ValueError", .type "Exception", .type "BaseException", .type "object"] "ValueError.__new__" = true
  k : PySem.W.keepIn K (.ref (cm.cl c)) = true
  b : PySem.W.subIn K (.ref (cm.cl c)) (.type "BaseException") = some true
  t : PySem.W.typeIn K (.ref (cm.cl c)) = some (.type "type")
theorem ds_raise {c m : Str} {j : Nat} {p p2 pos2 : Pos} (hc : X.calm = true) (tk : TakesG X E) (T : ExcT X.K X.mg cm c) (hg : Gl X c := by rfl) (hdb : (c == ("__debug__" : Str)) = false := by decide) : DS X cm E ks (.Raise (some (.Call (.Name c p) [.Constant (.str m) j p2] [] pos2)) none pos) (sRaise c) := by
  refine ⟨_, ps_raise hc tk (pmk_own PySem.F.excBase_ValueError T.x T.g T.k (raises_own T.b T.t) hg hdb), fun W0 H σ r fps gd D hp => ?_⟩
  exact hp σ H fps none gd (Fram.refl H fps) (Keep.refl ks σ) (.inl ⟨rfl, rfl⟩)
end
/-! ### an exception that is kept -/
theorem track {X : Cx} {pins : List (Addr × Obj)} {σ : St} {H : Hp} {s : Shared} {a : Addr} {oe : Obj} {vs : Array Value} {cls : Value} {d : Option Addr} (I : Inv X pins σ H s) (he : s.heap.get? a = some oe) (hz : Zc cls d oe) (hd : oe.data = .fields vs) (na : H a = none) (nl : a ≠ X.env.locals) (new : X.s_0.heap.get? a = none) (np : ∀ p ∈ X.pn ++ pins, p.1 ≠ a) : Inv X pins σ (upd H a (ExK cls d a)) s := by
  have other : ∀ b, b ≠ a → upd H a (ExK cls d a) b = H b := fun b h => upd_ne h
  have keepS : ∀ b o, H b = some o → upd H a (ExK cls d a) b = some o := fun b o q => (other b fun z => by rw [z, na] at q; cases q).trans q
  refine ⟨I.ok, I.os, I.bare, ⟨I.base.keep, I.base.slot, fun b o q n x => ?_, I.base.there, fun b xs q => keepS _ _ (I.base.tups b xs q), fun b o u q => keepS _ _ (I.base.frzs b o u q), fun b ps q => ?_⟩, I.loc, I.cell, ?_, fun x c q => ?_, fun p hp => ?_, fun b o q => ?_, I.len⟩
  · rw [other b fun z => by rw [z, new] at q; cases q]
    exact I.base.free b o q n x
  · obtain ⟨m, q⟩ := I.base.tbls b ps q
    exact ⟨m, keepS _ _ q⟩
  · rw [other _ (Ne.symm nl)]
    exact I.free
  · rw [other c fun z => ?_]
    · exact I.freeC x c q
    · subst z
      obtain ⟨v, oc, e, dc⟩ := I.cell x c q
      rw [he] at e
      cases e
      rw [hd] at dc
      cases dc
  · obtain ⟨h1, h2, h3⟩ := I.pin p hp
    exact ⟨h1, by rw [other _ (np p hp)]; exact h2, h3⟩
  · by_cases e : b = a
    · subst e
      rw [upd_same] at q
      cases q
      exact ⟨⟨oe, vs, he, hz, hd⟩, ⟨oe, he⟩, fun h1 h2 ⟨o, us, q1, q2, q3⟩ k => ⟨o, us, k o q1, q2, q3⟩⟩
    · rw [other b e] at q
      exact (I.hok b o q).stay (fun c u _ r => r) (fun c r => keepS _ _ r) fun c xs r => keepS _ _ r
/-- what 'except x as n: k = n' wishes of an exception of the body: behind it the object is kept -/
def wKeep (K : PySem.W.Frag) (c : Value) (i : Nat) (ts : Addr → Value → Option Addr → TS) (Wout : WX) (D : Ends) : WX := fun cls d σ H =>
  ∃ b, PySem.W.exmOne K cls c = some b ∧ (b = true → ∀ a, H a = none → ts a cls d { nx := fun σ' H' => H' a = none → D.nx (σ'.set i none) (upd H' a (ExK cls d a)), rt := fun _ _ => False, bk := fun _ _ => False, ct := fun _ _ => False } (σ.set i (some (.ref a))) H) ∧ (b = false → Wout cls d σ H)
theorem ps_tryKeep {X : Cx} {x n : Str} {c : Value} {i : Nat} {body suite : List Stmt} {b₀ : Stmt} {np pos pos' : Pos} {tb : WX → TS} {ts : Addr → Value → Option Addr → TS} {Wout : WX} (hs : X.stack = X.env :: X.outer) (hf : X.env.frame = some X.env.locals) (hex : X.ex = []) (hN : X.N.Nodup) (hi : X.N[i]? = some n) (hln : X.env.kindOf n = some .local) (hc : Names X x c) (tk : Takes X Wout)
    (hb : ∀ (W : WX) (pn : List (Addr × Obj)) (xe : Value → Shared → Prop), Takes (X.tr pn xe) W → PassesOwn (model X.prog X.w) X.A X.env xe → PSs (X.tr pn xe) body (tb W))
    (hsu : ∀ (a : Addr) (oe : Obj) (cls : Value) (d : Option Addr) (pn : List (Addr × Obj)), Zc cls d oe → (∃ vs, oe.data = .fields vs) → PSs (X.suite a ((a, oe) :: pn)) (b₀ :: suite) (ts a cls d)) :
    PS X (.Try body [.ExceptHandler (some (.Name x np)) (some n) (b₀ :: suite) pos'] [] [] pos) (fun D σ H => tb (wKeep X.K c i ts Wout D) D σ H) := by
  constructor
  intro pins s σ H D I h
  have ok := I.ok
  have fr : X.A.frames = some (X.env :: X.outer) := ok.frames.trans (congrArg some hs)
  apply wpAny_Try_except
  let M := model X.prog X.w
  let cl : List ExceptHandler := [.ExceptHandler (some (.Name x np)) (some n) (b₀ :: suite) pos']
  let xe : Value → Shared → Prop := fun e s₁ => wpAny M X.A (noteFrame e X.env) (fun _ s₂ => wpAny M X.A (setFlight e none) (fun _ s₃ => wpAny M X.A (handleBy e X.env cl) (SP X pins D) X.xe s₃) X.xe s₂) X.xe s₁
  have catch_ : Takes (X.tr (X.pn ++ pins) xe) (wKeep X.K c i ts Wout D) := by
    rintro u s' ⟨a, B, sI, pins', σ', H', cls, d, rfl, J', nb, up, sky, na, os, ag, b, hb1, yes, no⟩
    have J : Inv X pins σ' H' sI := J'.ofTry ok
    rw [show (X.tr (X.pn ++ pins) xe).stack = X.env :: X.outer from hs] at sky
    show wpAny M X.A (noteFrame (.ref a) X.env) _ _ _
    apply Sky.land Zc.steady fr hf sky
    intro h3 fl3 up3
    have J3 : Inv X pins σ' H' { s' with heap := h3 } := J.landed nb fl3.1 (up.trans up3) os ag
    obtain ⟨oe3, vs3, he3, hz3, hd3⟩ := fl3.there
    have nfr : a ∉ frs (X.env :: X.outer) := fun hm => by
      obtain ⟨_, o', e', hn'⟩ := fl3.2.2.1.mem hm
      rw [he3] at e'
      cases e'
      exact hn' _ hd3
    have nI : sI.heap.get? a = none := by
      cases q : sI.heap.get? a with
      | none => rfl
      | some o =>
        have z := nb a o q (by rw [hs]; exact nfr)
        rw [fl3.2.1] at z
        cases z
    have n0 : X.s_0.heap.get? a = none := by
      cases q : X.s_0.heap.get? a with
      | none => rfl
      | some o =>
        obtain ⟨o', z⟩ := J.base.there a o q (by rw [hex]; exact List.not_mem_nil)
        rw [nI] at z
        cases z
    have npn : ∀ p ∈ X.pn ++ pins, p.1 ≠ a := fun p hp z => by
      have q := (J.pin p hp).1
      rw [z, nI] at q
      cases q
    have nL : a ≠ X.env.locals := fun z => nfr (List.mem_filterMap.mpr ⟨X.env, List.mem_cons_self, by rw [hf, z]⟩)
    have nF : a ∉ X.fs := fun hm => by
      obtain ⟨e, he, q⟩ := List.mem_filterMap.mp hm
      exact nfr (List.mem_filterMap.mpr ⟨e, List.mem_cons_of_mem _ he, q⟩)
    have S3 := J3.suite he3 hd3 na nL nF
    show wpAny M X.A (handleBy (.ref a) X.env [.ExceptHandler (some (.Name x np)) (some n) (b₀ :: suite) pos']) _ _ _
    refine wpAny_handleBy_cons (codeAny_handlers_test ?_) (by intro z; cases z)
    have tyA : PySem.W.Looks M h3 (typeOf (.ref a)) cls := fun A Q E s k q => wpAny_typeOf_ref (k _ _ he3) (by rw [hz3.1]; exact q)
    have isA := PySem.W.exm_one (M := M) J3.kIn tyA hb1
    have cls_ : ∀ {Q E : Value → Shared → Prop}, Q c { s' with heap := h3 } → wpAny M (X.A.mark (some (.ref a))) (eval (.Name x np) X.env) Q E { s' with heap := h3 } := by
      intro Q E q
      rcases hc with ⟨hg, hdbg, hm | ⟨hm, hv, hnn⟩⟩
      · exact ld_glob (X := X.suite a ((a, oe3) :: (X.pn ++ pins))) S3 hg hm q hdbg
      · exact ld_blt (X := X.suite a ((a, oe3) :: (X.pn ++ pins))) S3 hg hm hv q hnn hdbg
    apply cls_
    apply isA.here
    match b, yes, no with
    | true, yes, _ =>
      apply codeAny_handlers_suite_as
      apply HandSPX.lands_againZ fl3
      intro h4 fl4 up4
      have J4 : Inv X pins σ' H' { s' with heap := h4 } := J.landed nb fl4.1 ((up.trans up3).trans up4) os ag
      obtain ⟨oe4, vs4, he4, hz4, hd4⟩ := fl4.there
      have S4 := J4.suite he4 hd4 na nL nF
      refine store_ok (X := X.suite a ((a, oe4) :: (X.pn ++ pins))) (v := .ref a) S4 hN hi (.inl hln) rfl (fun s5 S5 => ?_) (.inr hln)
      refine wpAny_mono ((hsu a oe4 cls d (X.pn ++ pins) hz4 ⟨_, hd4⟩).run [] s5 _ H' _ S5 (yes rfl a na)) ?_ (fun _ _ z => z.elim)
      intro f s6 hsp
      match f, hsp with
      | .next, ⟨σ6, H6, S6, q6⟩ =>
        refine gone_ok (X := X.suite a ((a, oe4) :: (X.pn ++ pins))) S6 hN hi hln fun s7 S7 => ?_
        obtain ⟨e7, n7, _, _, _⟩ := S7.pin (a, oe4) (List.mem_append_left _ (List.mem_cons_self ..))
        exact ⟨_, _, track (S7.unsuite ok) e7 hz4 hd4 n7 nL n0 npn, q6 n7⟩
      | .brk, ⟨_, _, _, q⟩ => exact q.elim
      | .cont, ⟨_, _, _, q⟩ => exact q.elim
      | .ret _, ⟨_, _, _, _, _, q⟩ => exact q.elim
    | false, _, no =>
      show wpAny _ X.A (handleBy (.ref a) X.env []) _ _ _
      apply wpAny_handleBy_nil
      obtain ⟨k1, k2, k3, oe, us, T, oT, ts', he, hz, hd, h1, hr⟩ := id fl3
      unfold PySem.passOn
      apply wpAny_bind
      apply wpAny_field he hd h1
      rw [if_neg (show ¬ ((Value.ref T == Value.none) = true) from by simp)]
      have fin : wpAny M X.A (setFlight (.ref a) X.env.frame) (fun _ s4 => wpAny M X.A (throw (.ref a) : Sem Flow) (SP X pins D) X.xe s4) X.xe { s' with heap := h3 } := by
        rw [hf]
        apply HandSPX.setFlight_upZ fl3
        intro h4 hh4 up4
        apply wpAny_throw
        exact tk _ _ ⟨a, B, sI, pins, σ', H', cls, d, rfl, J, nb, (up.trans up3).trans up4, .inr (.inr (by rw [hs]; exact hh4)), na, os, ag, no rfl⟩
      first
        | exact wpAny_bind (wpAny_pure (wpAny_bind fin))
        | exact wpAny_bind fin
  refine wpAny_mono ((hb (wKeep X.K c i ts Wout D) (X.pn ++ pins) xe catch_ PassesOwn.looking).run [] s σ H D (I.toTry _) h) ?_ (fun e s1 he => he)
  intro f s1 hsp
  match f, hsp with
  | .next, ⟨σ', H', J', q⟩ => exact wpAny_execs_nil ⟨σ', H', J'.ofTry ok, q⟩
  | .brk, ⟨σ', H', J', q⟩ => exact ⟨σ', H', J'.ofTry ok, q⟩
  | .cont, ⟨σ', H', J', q⟩ => exact ⟨σ', H', J'.ofTry ok, q⟩
  | .ret u, ⟨v, σ', H', J', r, q⟩ => exact ⟨v, σ', H', J'.ofTry ok, r, q⟩
end DL

namespace DL
variable [Tbs]
open PySem L2
/-! ### try: .. except h as n: k = n -/
def sTry (sub : Str → Option Bool) (i j : Nat) (body : FS) : FS := fun r => match body r with
  | .exn x r' => match sub x.cls with
    | some true => if i < r'.length ∧ j < r'.length ∧ x.fs.length = x.ds.length then .nx (((r'.set i none).set j (some (.exc x.cls x.fs x.ds))).set i none) else .bad
    | some false => .exn x r'
    | none => .bad
  | o => o
def tsOf (cm : Cm) (E : XS) (ks : Nat → Bool) (g : FS) : TS := fun D σ H => ∃ W0 r fps, Good cm W0 H σ r fps ∧ SPost cm E W0 H σ fps ks D (g r)
theorem DSs.pss {X : Cx} {cm : Cm} {E : XS} {ks : Nat → Bool} {st : List Stmt} {g : FS} (h : DSs X cm E ks st g) : PSs X st (tsOf cm E ks g) := by
  obtain ⟨ts, h1, h2⟩ := h.ex
  exact ⟨fun pins s σ H D I ⟨W0, r, fps, gd, q⟩ => h1.run pins s σ H D I (h2 W0 H σ r fps gd D q)⟩
section
variable {X : Cx} {cm : Cm} {E : XS} {pos : Pos} {ks : Nat → Bool}
/-- a slot is forgotten -/
theorem Good.clear {W0 : Addr → Prop} {H : Hp} {σ : St} {r : Env} {fps : Fps} (g : Good cm W0 H σ r fps) (i : Nat) (x : Option V) : Good cm W0 H (σ.set i x) (r.set i none) (fun j => if j = i then [] else fps j) := by
  have sub : ∀ {j a}, a ∈ (if j = i then [] else fps j) → j ≠ i ∧ a ∈ fps j := fun {j a} m => by
    split at m
    · cases m
    · exact ⟨by assumption, m⟩
  refine ⟨by simp [g.len], g.w0, fun k d h => ?_, fun j => ?_, fun j k a m m' => g.dj j k a (sub m).2 (sub m').2, fun j a m => g.nw j a (sub m).2, fun j a m => g.mu j a (sub m).2⟩
  · by_cases e : i = k
    · subst e
      rw [List.getElem?_set] at h
      simp at h
    · rw [List.getElem?_set_ne e] at h
      obtain ⟨v, h1, h2⟩ := g.sl k d h
      refine ⟨v, by rw [List.getElem?_set_ne e]; exact h1, ?_⟩
      rw [if_neg (Ne.symm e)]
      exact h2.move (fun a z => .inl (z.imp id fun ⟨j, m⟩ => ⟨j, (sub m).2⟩)) fun _ _ q _ _ => q
  · split
    · exact List.nodup_nil
    · exact g.nd j
theorem Fram.less {H H' : Hp} {fps f1 f2 : Fps} (m : Fram H fps H' f1 []) (h : ∀ j a, a ∈ f2 j → ∃ k, a ∈ f1 k) : Fram H fps H' f2 [] :=
  ⟨@Fram.keep _ _ _ _ _ _ m, fun j a z => by obtain ⟨k, q⟩ := h j a z; exact m.old k a q, m.oldv, m.back, m.tb⟩
/-- an exception that was let out, kept as a value -/
theorem XRep.kept {W0 : Addr → Prop} {H : Hp} {σ : St} {r : Env} {fps : Fps} {x : Xc} {dx : Option Addr} {a : Addr} (g : Good cm W0 H σ r fps) (h : XRep cm (Wof W0 fps) H x dx) (hl : x.fs.length = x.ds.length) (na : H a = none) : Rep cm (Wof W0 fps) (upd H a (ExK (.ref (cm.cl x.cls)) dx a)) (.ref a) (.exc x.cls x.fs x.ds) [] := by
  have hex : Ex H (upd H a (ExK (.ref (cm.cl x.cls)) dx a)) := Ex.new na
  have nW : ∀ b o, H b = some o → isM o = false → ¬ Wof W0 fps b := fun b o q m z => by
    obtain ⟨u, e, f⟩ := g.wof.1 b z
    rw [q] at e
    cases e
    rw [m] at f
    cases f
  have nA : ¬ Wof W0 fps a := fun z => (g.wof.1 a z).there na
  rcases h with ⟨h1, h2⟩ | ⟨b, vs, h1, h2, h3, h4⟩
  · have hd : x.ds = [] := List.length_eq_zero_iff.mp (by rw [← hl, h1]; rfl)
    rw [hd]
    exact .exc (vs := []) upd_same nA (.inl ⟨h1, h2⟩) (by rw [h1]; rfl) .nil
  · exact .exc (vs := vs) upd_same nA (.inr ⟨b, h1, hex b _ h2, nW b _ h2 rfl⟩) h3 (h4.ex hex)
theorem ds_try {h n k : Str} {i j : Nat} {body : List Stmt} {np pk pn pa pos' : Pos} {g : FS} {sub : Str → Option Bool} (hs : X.stack = X.env :: X.outer) (hf : X.env.frame = some X.env.locals) (hex : X.ex = []) (hN : X.N.Nodup) (tk : TakesG X E) (hg : Gl X h) (hm : X.mg h = some (.ref (cm.cl h))) (hsub : ∀ c b, sub c = some b → PySem.W.exmOne X.K (.ref (cm.cl c)) (.ref (cm.cl h)) = some b)
    (hb : ∀ (E' : XS) (pn : List (Addr × Obj)) (xe : Value → Shared → Prop), TakesG (X.tr pn xe) E' → PassesOwn (model X.prog X.w) X.A X.env xe → DSs (X.tr pn xe) cm E' ks body g)
    (hij : i ≠ j := by decide) (hki : ks i = false := by rfl) (hkj : ks j = false := by rfl) (hi : X.N[i]? = some n := by rfl) (hj : X.N[j]? = some k := by rfl) (hln : X.env.kindOf n = some .local := by rfl) (hlk : X.env.scope.names.lookup k = some .local := by rfl)
    (hsw : swapsWith (.Name n pn) (some (.Name k pk)) pa.line X.env = pure false := by rfl) (hdb : (h == ("__debug__" : Str)) = false := by decide) (hv : ∀ a oe pn', PE (X.suite a ((a, oe) :: pn')) (.Name n pn) (tVar i) := by intro _ _ _; exact pe_var rfl (.inl rfl)) :
    DS X cm E ks (.Try body [.ExceptHandler (some (.Name h np)) (some n) [.Assign [.Name k pk] (.Name n pn) pa] pos'] [] [] pos) (sTry sub i j g) := by
  refine ⟨_, ps_tryKeep (c := .ref (cm.cl h)) (tb := fun W => tsOf cm (fun σ cls d H => W cls d σ H) ks g) (ts := fun _ _ _ => tAsg (tVar i) (gName j)) hs hf hex hN hi hln ⟨hg, hdb, .inl hm⟩ tk (fun W pn' xe t po => (hb (fun σ cls d H => W cls d σ H) pn' xe t po).pss) (fun a oe cls d pn' _ _ => pss_one (ps_set hN hj (.inl hlk) (hv a oe pn') hsw (.inr hlk))), fun W0 H σ r fps gd D hp => ?_⟩
  refine ⟨W0, r, fps, gd, ?_⟩
  unfold sTry at hp
  cases hr : g r with
  | nx r' => rw [hr] at hp; exact hp
  | bk r' => rw [hr] at hp; exact hp
  | ct r' => rw [hr] at hp; exact hp
  | rt d r' => rw [hr] at hp; exact hp
  | bad => rw [hr] at hp; exact hp
  | exn x r' =>
    rw [hr] at hp
    intro σ' H' fps' dx g' fm k' xr
    cases hb' : sub x.cls with
    | none => simp only [hb'] at hp; exact hp.elim
    | some b =>
      simp only [hb'] at hp
      refine ⟨b, hsub _ _ hb', fun e a na => ?_, fun e => ?_⟩
      · subst e
        simp only [] at hp
        split at hp
        · rename_i hlen
          have li : i < σ'.length := by rw [g'.len]; exact hlen.1
          refine ⟨.ref a, by simp [li], fun _ => ?_⟩
          have g0 := g'.ex (Ex.new (o := ExK (.ref (cm.cl x.cls)) dx a) na)
          have rp := xr.kept g' hlen.2.2 na
          have g1 := g0.clear i (some (.ref a))
          have g1' : Good cm (Wp W0 []) (upd H' a (ExK (.ref (cm.cl x.cls)) dx a)) (σ'.set i (some (.ref a))) (r'.set i none) (fun j => if j = i then [] else fps' j) := by rw [wp_nil]; exact g1
          have s1 : ∀ {j a}, a ∈ (if j = i then [] else fps' j) → a ∈ fps' j := fun {j a} m => by
            split at m
            · cases m
            · exact m
          have rp1 : Rep cm (Wof (Wp W0 []) (fun j => if j = i then [] else fps' j)) (upd H' a (ExK (.ref (cm.cl x.cls)) dx a)) (.ref a) (.exc x.cls x.fs x.ds) [] := rp.move (fun b z => .inl (by
            rw [wp_nil] at z
            exact z.imp id fun ⟨j, m⟩ => ⟨j, s1 m⟩)) fun _ _ q _ _ => q
          have g2 := g1'.put rp1 List.nodup_nil (fun _ m => nomatch m) j
          have g3 := g2.clear i none
          refine hp _ _ _ g3 ((fm.trans (Fram.of_ex (fpv := []) (Ex.new na) fun _ m => nomatch m)).less fun j' b m => ?_) ((k'.trans (Keep.set hki)).trans ((Keep.set hkj).trans (Keep.set hki)))
          split at m
          · cases m
          · split at m
            · cases m
            · exact ⟨j', m⟩
        · exact hp.elim
      · subst e
        exact hp σ' H' fps' dx g' fm k' xr
end
end DL

namespace DL
variable [Tbs]
open PySem PySem.W PyProof.Rows
/-! ### isinstance of an exception, with a dict of its own or without -/
section
variable {prog : Program} {w : World} {A : Around} {E : Value → Shared → Prop} {s : Shared} {K : Frag} {x C : Addr} {ox : Obj} {od : Option Obj}
theorem found_data {name : Str} {a g : Value} (hc : (clsIn K C).isSome = true) (ha : findIn K (.ref C) name = some (some a)) (hg : specialIn K a "__get__" = some (some g)) (ht : takesIn K a = some true) : findObj K C od name = some (.bind g a) := by
  unfold findObj
  cases q : clsIn K C with
  | none => rw [q] at hc; cases hc
  | some cd => simp only [Option.bind_some, ha, hg, ht]
theorem class_of_exc {Q : Option Value → Shared → Prop} (T : L2.ExcC K C) (kin : K.In s.heap) (I : InstAt s.heap x ox C od) (h : Q (some (.ref C)) { s with toks := s.toks + 1 }) : wpAny (model prog w) A (getAttr? (.ref x) "__class__") Q E s := by
  have fnd : findObj K C od "__class__" = some (.bind (.builtin "getset_descriptor.__get__") (.builtin "object.__class__")) := by
    obtain ⟨cd, hc, _⟩ := any_some T.hd
    exact found_data (by rw [hc]; rfl) T.ha T.hn T.ht
  let M := model prog w
  obtain ⟨hp, gs, dr, tk, os⟩ := s
  have t0 := I.type (M := M)
  have t1 := looks_findIn (M := M) kin T.hg
  have t2 := looks_findIn (M := M) kin T.hk
  have t3 := looks_find (M := M) kin I fnd
  have tb : Looks M hp (isInstance (.ref x) (.type "BaseException")) true := t0.andThen (looks_subIn kin T.hs)
  have n2 : (Value.builtin "BaseException.__getattribute__" == Value.builtin "object.__getattribute__") = false := by decide +kernel
  unfold getAttr? getAttrBy? getAttrBy
  apply wpAny_bind
  apply wpAny_mkText
  apply wpAny_bind
  apply wpAny_attempt
  apply wpAny_holding
  apply wpAny_bind
  apply t0.at
  apply wpAny_bind
  apply t1.at
  show wpAny _ _ (if (onTheHeap (Value.ref C) && Value.builtin "BaseException.__getattribute__" == Value.builtin "object.__getattribute__") = true then _ else _) _ _ _
  rw [n2, Bool.and_false, if_neg Bool.false_ne_true]
  unfold getAttrByItsOwn hookBefore
  apply wpAny_bind
  rw [if_pos (show onTheHeap (Value.ref C) = true from rfl)]
  apply t2.at
  apply wpAny_bind
  apply wpAny_attempt
  apply wpAny_holding
  unfold callGetattribute
  rw [if_neg (show ¬ (false && onTheHeap (Value.builtin "BaseException.__getattribute__")) = true from Bool.false_ne_true)]
  unfold boundAndCalled
  rw [PySem.F.excAttr_ValueError.ga.bind (.ref x)]
  apply wpAny_bind
  apply wpAny_pure
  show wpAny _ _ (call (.builtin "BaseException.__getattribute__") [.ref x, .str "__class__" tk]) _ _ _
  apply wpAny_call
  apply codeAny_call_builtin PySem.F.excAttr_ValueError.ga.plain PySem.F.entry_bexc_ga
  refine @check_slot M _ _ ⟨hp, gs, dr, tk + 1, os⟩ "BaseException.__getattribute__" "BaseException" "__getattribute__" (.ref x) [.str "__class__" tk] [] _ (by decide +kernel) (by decide +kernel) tb (PySem.F.args_bexc_ga (.ref x) (.str "__class__" tk)) ?_
  unfold Builtin.«object.__getattribute__»
  apply wpAny_bind
  apply wpAny_of_eq (a := ((Value.ref x : Value), [Value.str "__class__" tk]))
  · first | rfl | (simp only [slotArgs]; rfl)
  apply wpAny_bind
  apply wpAny_pure
  apply wpAny_bind
  apply t0.at
  apply wpAny_bind
  apply t3.at
  show wpAny _ _ (holding [Value.builtin "object.__class__"] (call (.builtin "getset_descriptor.__get__") [.builtin "object.__class__", .ref x, .ref C]) >>= ret) _ _ _
  apply wpAny_bind
  apply wpAny_holding
  apply wpAny_call
  refine class_get (s := ⟨hp, gs, dr, tk + 1, os⟩) (ox := ox) (od := od) kin I T.hm ?_
  apply wpAny_pure
  show wpAny _ _ (handedOut (.ref C)) _ _ _
  rw [handedOut_of (v := .ref C) rfl]
  first
    | exact wpAny_pure (wpAny_pure h)
    | exact wpAny_pure h
theorem kitX_exc (T : L2.ExcC K C) : KitX K (.ref x) (.ref C) (fun h => InstAt h x ox C od) where
  ty := fun _ _ _ I => I.type
  it := fun M h kin _ => by
    obtain ⟨cd, hc, _⟩ := any_some T.hd
    unfold clsIn at hc
    split at hc
    · rename_i ho
      intro A' Q' E' s' k q
      unfold isType loadHead
      apply wpAny_bind
      exact wpAny_loadPart (k _ _ (kin _ _ ho)) (wpAny_pure q)
    · cases hc
  ne := fun h tp dd its n sl kin htp => by
    apply beq_eq_false_iff_ne.mpr
    intro e
    cases e
    obtain ⟨cd, hc, _⟩ := any_some T.hd
    unfold clsIn at hc
    split at hc
    · rename_i ho
      have z := kin _ _ ho
      rw [htp] at z
      cases z
    · cases hc
  ca := fun kin I q => class_of_exc T kin I q
end
end DL
namespace DL
variable [Tbs]
open PySem L2
section
variable {X : Cx} {cm : Cm} {E : XS} {b : Bool} {pos p : Pos} {a : Expr} {fa : F}
/-- the object of a kept exception -/
theorem exk_inst {pins : List (Addr × Obj)} {σ : St} {H : Hp} {s : Shared} {x C : Addr} {dx : Option Addr} {fs : List (Str × V)} (I : Inv X pins σ H s) (h : H x = some (ExK (.ref C) dx x)) (hd : dx = none ∨ ∃ a, dx = some a ∧ H a = some (.xd fs)) : ∃ oe od, PySem.W.InstAt s.heap x oe C od := by
  obtain ⟨⟨oe, vs, h1, ⟨h2, h3⟩, h4⟩, _⟩ := I.hok x _ h
  rcases hd with rfl | ⟨d, rfl, hd⟩
  · refine ⟨oe, none, h1, h2, by unfold PySem.W.notCls; rw [h4], ?_⟩
    rw [h3]; trivial
  · obtain ⟨m, hns, hr⟩ := I.hok d _ hd
    obtain ⟨od, ho, hl⟩ := lookIn_ns hns
    refine ⟨oe, some od, h1, h2, by unfold PySem.W.notCls; rw [h4], ?_⟩
    rw [h3]; exact ho
def rIsX (K : PySem.W.Frag) : List V → Hp → VK → Prop := fun xs H Q => ∃ (x C : Addr) (dx : Option Addr) (fs : List (Str × V)) (c : V) (cv : Value) (b : Bool), xs = [.ref x, c] ∧ ExcC K C ∧ H x = some (ExK (.ref C) dx x) ∧ (dx = none ∨ ∃ a, dx = some a ∧ H a = some (.xd fs)) ∧ ClsV c cv ∧ PySem.W.kitOne K (.ref C) cv = some b ∧ Q (.bl b) H
theorem call_isX : CallR X (.builtin "isinstance") (rIsX X.K) := by
  intro pins s σ H xs us Q I r h
  obtain ⟨x, C, dx, fs, c, cv, b, rfl, T, hx, hd, hc, e, q⟩ := h
  obtain ⟨u1, u2, rfl, r1, r2⟩ := vals2 r
  cases (show u1 = Value.ref x from r1)
  cases hc.eq r2
  obtain ⟨oe, od, J⟩ := exk_inst I hx hd
  exact PySem.W.kia_one (kitX_exc T) I.kIn J e (fun z => nomatch z) fun tk => ⟨.bl b, H, I.tok tk, rfl, q⟩
def rIsXT (K : PySem.W.Frag) : List V → Hp → VK → Prop := fun xs H Q => ∃ (x C tp : Addr) (dx : Option Addr) (fs : List (Str × V)) (cs : List V) (us : List Value) (b : Bool), xs = [.ref x, .ref tp] ∧ ExcC K C ∧ H x = some (ExK (.ref C) dx x) ∧ (dx = none ∨ ∃ a, dx = some a ∧ H a = some (.xd fs)) ∧ H tp = some (.tup cs) ∧ Paired ClsV cs us ∧ PySem.W.kitAny K (.ref C) us = some b ∧ Q (.bl b) H
theorem call_isXT : CallR X (.builtin "isinstance") (rIsXT X.K) := by
  intro pins s σ H xs us Q I r h
  obtain ⟨x, C, tp, dx, fs, cs, ws, b, rfl, T, hx, hd, hT, hc, e, q⟩ := h
  obtain ⟨u1, u2, rfl, r1, r2⟩ := vals2 r
  cases (show u1 = Value.ref x from r1)
  cases (show u2 = Value.ref tp from r2)
  obtain ⟨oe, od, J⟩ := exk_inst I hx hd
  obtain ⟨_, its, rv, ⟨oc, od', dt, sl⟩, h1, h2, n, h3⟩ := (show ObjOk X.prog X.w H s.heap tp (.tup cs) from I.hok tp _ hT)
  cases ClsV.all hc rv
  simp only at h2 h3
  subst h2 h3
  exact PySem.W.kia_tup (kitX_exc T) I.kIn J h1 e (fun z => nomatch z) fun tk => ⟨.bl b, H, I.tok tk, rfl, q⟩
/-! over data -/
def gIsX (kit : Str → Option Bool) : D → Out D := fun d => match d with
  | .exc k _ _ => match kit k with
    | some b => .ok (.bl b)
    | none => .bad
  | _ => .bad
theorem exc_of {W : Addr → Prop} {H : Hp} {v : V} {c : Str} {fs : List Str} {ds : List D} {fp : List Addr} (h : Rep cm W H v (.exc c fs ds) fp) : ∃ x dx vs, v = .ref x ∧ H x = some (ExK (.ref (cm.cl c)) dx x) ∧ (dx = none ∨ ∃ a, dx = some a ∧ H a = some (.xd (fs.zip vs))) ∧ fs.length = vs.length ∧ Reps cm W H vs ds [] ∧ (fs ≠ [] → ∃ a, dx = some a ∧ H a = some (.xd (fs.zip vs))) := by
  cases h with
  | exc h1 h2 h3 h4 h5 =>
    refine ⟨_, _, _, rfl, h1, h3.imp (fun z => z.2) fun ⟨a, e, q, _⟩ => ⟨a, e, q⟩, h4, h5, fun n => ?_⟩
    rcases h3 with ⟨z, _⟩ | ⟨a, e, q, _⟩
    · exact absurd z n
    · exact ⟨a, e, q⟩
theorem isX_con {kit : Str → Option Bool} {ta : TE} {c : V} {cv : Value} (h2 : ECon cm E false ta fa) (hc : ClsV c cv) (hkit : ∀ k b, kit k = some b → ExcC X.K (cm.cl k) ∧ PySem.W.kitOne X.K (.ref (cm.cl k)) cv = some b) : ECon cm E b (fun σ H Q => ta σ H fun v H1 => rIsX X.K [v, c] H1 Q) (c1 (gIsX kit) fa) := fun W H σ env w fr Q hp => h2 W H σ env w fr _ (hp.bind.mono (fun d q v H1 fp e1 r1 f1 => by
    unfold gIsX at q
    split at q
    · rename_i k fs ds
      split at q
      · rename_i b' hb
        obtain ⟨x, dx, vs, rfl, k1, k2, _, _, _⟩ := exc_of r1
        obtain ⟨T, e⟩ := hkit k b' hb
        exact ⟨x, cm.cl k, dx, fs.zip vs, c, cv, b', rfl, T, k1, k2, hc, e, q _ H1 [] e1 (.bl _) FpN.nil⟩
      · exact q.elim
    · exact q.elim) fun _ _ z => z)
/-- isinstance(e, C), C a class of one's own -/
theorem de_isX {c : Str} {kit : Str → Option Bool} {p2 : Pos} (hg : Gl X "isinstance") (hm : X.mg "isinstance" = none) (hgc : Gl X c) (hmc : X.mg c = some (.ref (cm.cl c))) (hkit : ∀ k b, kit k = some b → ExcC X.K (cm.cl k) ∧ PySem.W.kitOne X.K (.ref (cm.cl k)) (.ref (cm.cl c)) = some b) (ha : DE X cm E false a fa)
    (hdb : (c == ("__debug__" : Str)) = false := by decide) (hs1 : starEach [a, .Name c p2] X.env = (false, eval a X.env) :: starEach [.Name c p2] X.env := by rfl) (hs2 : starEach [.Name c p2] X.env = (false, eval (.Name c p2) X.env) :: starEach [] X.env := by rfl) (hpl : (backTo pos (starEach [.Name c p2] X.env)).any (·.1) = false := by rfl) :
    DE X cm E b (.Call (.Name "isinstance" p) [a, .Name c p2] [] pos) (c1 (gIsX kit) fa) := by
  obtain ⟨ta, h1, h2⟩ := ha.ex
  exact ⟨_, pe_callB call_isX hg hm PyProof.Rows.boot_isinstance (pa_cons h1 (pa_cons (pe_glob (v := .ref (cm.cl c)) hgc hmc rfl hdb) pa_nil hs2) hs1) (by decide) (by decide) hs1 hpl, isX_con h2 (.own _) hkit⟩
/-- isinstance(e, T), T a built-in class -/
theorem de_isXb {c : Str} {tn : String} {kit : Str → Option Bool} {p2 : Pos} (hg : Gl X "isinstance") (hm : X.mg "isinstance" = none) (hgc : Gl X c) (hmc : X.mg c = none) (hv : bootBuiltins c = some (.type tn)) (hkit : ∀ k b, kit k = some b → ExcC X.K (cm.cl k) ∧ PySem.W.kitOne X.K (.ref (cm.cl k)) (.type tn) = some b) (ha : DE X cm E false a fa)
    (hnn : c ≠ "__name__" := by decide) (hdb : (c == ("__debug__" : Str)) = false := by decide) (hs1 : starEach [a, .Name c p2] X.env = (false, eval a X.env) :: starEach [.Name c p2] X.env := by rfl) (hs2 : starEach [.Name c p2] X.env = (false, eval (.Name c p2) X.env) :: starEach [] X.env := by rfl) (hpl : (backTo pos (starEach [.Name c p2] X.env)).any (·.1) = false := by rfl) :
    DE X cm E b (.Call (.Name "isinstance" p) [a, .Name c p2] [] pos) (c1 (gIsX kit) fa) := by
  obtain ⟨ta, h1, h2⟩ := ha.ex
  exact ⟨_, pe_callB call_isX hg hm PyProof.Rows.boot_isinstance (pa_cons h1 (pa_cons (pe_bltn (v := .ty tn) hgc hmc hv rfl hnn hdb) pa_nil hs2) hs1) (by decide) (by decide) hs1 hpl, isX_con h2 (.ty _) hkit⟩
/-- names of classes, as arguments -/
inductive NamesC (X : Cx) (cm : Cm) : List Expr → List Value → TA → Prop
  | nil : NamesC X cm [] [] tNil
  | own {c : Str} {p : Pos} {es : List Expr} {us : List Value} {t : TA} (hg : Gl X c) (hm : X.mg c = some (.ref (cm.cl c))) (hdb : (c == ("__debug__" : Str)) = false) (h : NamesC X cm es us t) (hs : starEach (.Name c p :: es) X.env = (false, eval (.Name c p) X.env) :: starEach es X.env) : NamesC X cm (.Name c p :: es) (.ref (cm.cl c) :: us) (tCons (tC (.ref (cm.cl c))) t)
  | bl {c : Str} {tn : String} {p : Pos} {es : List Expr} {us : List Value} {t : TA} (hg : Gl X c) (hm : X.mg c = none) (hv : bootBuiltins c = some (.type tn)) (hnn : c ≠ "__name__") (hdb : (c == ("__debug__" : Str)) = false) (h : NamesC X cm es us t) (hs : starEach (.Name c p :: es) X.env = (false, eval (.Name c p) X.env) :: starEach es X.env) : NamesC X cm (.Name c p :: es) (.type tn :: us) (tCons (tC (.ty tn)) t)
theorem NamesC.pa {es : List Expr} {us : List Value} {t : TA} (h : NamesC X cm es us t) : PA X es t := by
  induction h with
  | nil => exact pa_nil
  | own hg hm hdb _ hs ih => exact pa_cons (pe_glob (v := .ref _) hg hm rfl hdb) ih hs
  | bl hg hm hv hnn hdb _ hs ih => exact pa_cons (pe_bltn (v := .ty _) hg hm hv rfl hnn hdb) ih hs
theorem NamesC.go {es : List Expr} {us : List Value} {t : TA} (h : NamesC X cm es us t) : ∃ cs, Paired ClsV cs us ∧ ∀ σ H Q, Q cs H → t σ H Q := by
  induction h with
  | nil => exact ⟨[], .nil, fun σ H Q q => q⟩
  | own hg hm hdb _ hs ih =>
    obtain ⟨cs, h1, h2⟩ := ih
    exact ⟨_ :: cs, .cons (.own _) h1, fun σ H Q q => h2 σ H _ q⟩
  | bl hg hm hv hnn hdb _ hs ih =>
    obtain ⟨cs, h1, h2⟩ := ih
    exact ⟨_ :: cs, .cons (.ty _) h1, fun σ H Q q => h2 σ H _ q⟩
theorem de_isXT {es : List Expr} {us : List Value} {t : TA} {kit : Str → Option Bool} {j} {tp : Pos} (hg : Gl X "isinstance") (hm : X.mg "isinstance" = none) (hc : NamesC X cm es us t) (hlen : us.length ≤ 1000) (hkit : ∀ k b, kit k = some b → ExcC X.K (cm.cl k) ∧ PySem.W.kitAny X.K (.ref (cm.cl k)) us = some b) (ha : DE X cm E false a fa)
    (hs1 : starEach [a, .Tuple es j tp] X.env = (false, eval a X.env) :: starEach [.Tuple es j tp] X.env := by rfl) (hs2 : starEach [.Tuple es j tp] X.env = (false, eval (.Tuple es j tp) X.env) :: starEach [] X.env := by rfl) (hpl : (backTo pos (starEach [.Tuple es j tp] X.env)).any (·.1) = false := by rfl) :
    DE X cm E b (.Call (.Name "isinstance" p) [a, .Tuple es j tp] [] pos) (c1 (gIsX kit) fa) := by
  obtain ⟨ta, h1, h2⟩ := ha.ex
  obtain ⟨cs, hp, go⟩ := hc.go
  refine ⟨_, pe_callB call_isXT hg hm PyProof.Rows.boot_isinstance (pa_cons h1 (pa_cons (pe_tup hc.pa) pa_nil hs2) hs1) (by decide) (by decide) hs1 hpl, fun W H σ env w fr Q hp' => h2 W H σ env w fr _ (hp'.bind.mono (fun d q v H1 fp e1 r1 f1 => ?_) fun _ _ z => z)⟩
  unfold gIsX at q
  split at q
  · rename_i k fs ds
    split at q
    · rename_i b' hb
      obtain ⟨x, dx, vs, rfl, k1, k2, _, _, _⟩ := exc_of r1
      obtain ⟨T, e⟩ := hkit k b' hb
      have hl : cs.length = us.length := by
        have : ∀ {cs : List V} {us : List Value}, Paired ClsV cs us → cs.length = us.length := by
          intro cs us h
          induction h with
          | nil => rfl
          | cons _ _ ih => simp [ih]
        exact this hp
      refine go σ H1 _ ⟨by rw [hl]; exact small1000' hlen, fun q' hq' => ?_⟩
      have ex := Ex.new (o := HO.tup cs) hq'
      exact ⟨x, cm.cl k, q', dx, fs.zip vs, cs, us, b', rfl, T, ex _ _ k1, k2.imp id fun ⟨a, z1, z2⟩ => ⟨a, z1, ex _ _ z2⟩, upd_same, hp, e, q _ _ [] (e1.trans ex) (.bl _) FpN.nil⟩
    · exact q.elim
  · exact q.elim
end
end DL

namespace DL
variable [Tbs]
open PySem L2
section
variable {X : Cx} {cm : Cm} {E : XS} {b : Bool} {pos : Pos} {a c tg : Expr} {fa fb : F}
/-! ### a new list that none holds: x.clear(), x.append(y); {} -/
def gNewL : D → Out D := fun d => match d with
  | .lst true _ => .ok .non
  | _ => .bad
def cAppN (fa fb : F) : F := fun r => (fa r).bind fun d => match d with
  | .lst true ds => if ds.length < 1000000 then (fb r).bind fun _ => .ok .non else .bad
  | _ => .bad
theorem ex_new {H H1 : Hp} {p : Addr} {o : HO} (e : Ex H H1) (h : H p = none) (hm : MutAt H1 p) : Ex H (upd H1 p o) := e.updM h hm
theorem de_clrN {apos : Pos} (ha : DE X cm E true a fa) (hbase : attributeBase a "clear" X.env (eval a X.env) = eval a X.env := by rfl) (hline : (apos.endLine == pos.line) = true := by rfl) :
    DE X cm E b (.Call (.Attribute a "clear" apos) [] [] pos) (c1 gNewL fa) := by
  obtain ⟨ta, h1, h2⟩ := ha.ex
  refine ⟨_, pe_bm0 PySem.F.plainAttrs_list PySem.F.slot_list_clear PySem.F.type_list_clear mt_clear h1 hbase hline, fun W H σ r w fr Q hp => h2 W H σ r w fr _ (hp.bind.mono (fun d q v H1 fp e1 r1 f1 => ?_) fun _ _ z => z)⟩
  unfold gNewL at q
  split at q
  · obtain ⟨pa, vs, fp', rfl, hpa, hfp, hr⟩ := r1.lstOf
    exact ⟨.inl ⟨rfl, _, SqL.of hpa⟩, pa, vs, rfl, rfl, hpa, q .non _ [] (ex_new e1 (f1.2 pa (by rw [hfp]; exact List.mem_cons_self ..)) ⟨_, hpa, rfl⟩) .non FpN.nil⟩
  · exact q.elim
theorem de_appN {apos : Pos} (ha : DE X cm E true a fa) (hc : DE X cm E false c fb) (hbase : attributeBase a "append" X.env (eval a X.env) = eval a X.env := by rfl)
    (hfew : ((backTo pos (starEach [c] X.env)).all (fun x => !x.1) && (backToKw pos (keywordEach [] X.env)).all (fun x => x.1.isSome) && decide ([c].length + ([] : List Keyword).length + (if ([] : List Keyword).isEmpty then 0 else 1) < 30)) = true := by rfl)
    (hline : (apos.endLine == pos.line) = true := by rfl) (hs : starEach [c] X.env = (false, eval c X.env) :: starEach [] X.env := by rfl) (hplain : (backTo pos (starEach [] X.env)).any (·.1) = false := by rfl) :
    DE X cm E b (.Call (.Attribute a "append" apos) [c] [] pos) (cAppN fa fb) := by
  obtain ⟨ta, h1, h2⟩ := ha.ex
  obtain ⟨tc, h3, h4⟩ := hc.ex
  refine ⟨_, pe_bm PySem.F.plainAttrs_list PySem.F.slot_list_append PySem.F.type_list_append mt_append h1 (pa_cons h3 pa_nil hs) hbase hfew hline hs hplain, fun W H σ r w fr Q hp => h2 W H σ r w fr _ (hp.bind.mono (fun d q v H1 fp e1 r1 f1 => ?_) fun _ _ z => z)⟩
  split at q
  · rename_i ds
    split at q
    · rename_i hl
      obtain ⟨pa, vs, fp', rfl, hpa, hfp, hr⟩ := r1.lstOf
      refine ⟨.inl ⟨rfl, _, SqL.of hpa⟩, h4 W H1 σ r (w.ex e1) (fr.ex e1) _ (q.bind.mono (fun d2 q2 v2 H2 fp2 e2 r2 f2 => ?_) fun _ _ z => z.ex e1)⟩
      exact ⟨pa, vs, v2, rfl, rfl, e2 _ _ hpa, Nat.lt_of_lt_of_le (show vs.length < 1000000 by rw [hr.len]; exact hl) (by decide), q2 .non _ [] (ex_new (e1.trans e2) (f1.2 pa (by rw [hfp]; exact List.mem_cons_self ..)) ⟨_, e2 _ _ hpa, rfl⟩) .non FpN.nil⟩
    · exact q.elim
  · exact q.elim
theorem de_dict0 : DE X cm E true (.Dict [] [] pos) (cK (.dK true [] [])) := by
  refine ⟨_, pe_dnewK, fun W H σ r w fr Q hp p hp' => ?_⟩
  exact hp (.ref p) _ [p] (Ex.new hp') (.dKO (vs := []) upd_same rfl .nil) ⟨by simp, fun a m => by cases List.mem_singleton.mp m; exact hp'⟩
/-! ### a list comprehension with two fors -/
def tiOf (cm : Cm) (E : XS) (it : Env → Out (List D)) : TI := fun σ H R => ∃ W r, WOk cm W H ∧ FRep cm W H σ r ∧ Post (it r) (fun items => ∀ J H1, Ex H H1 → IsIt cm J items W H1 → R J H1) (XPost cm (E σ) W H)
theorem DI.pi {it : Env → Out (List D)} (h : DI X cm E tg a it) : PI X tg a (tiOf cm E it) := by
  obtain ⟨wi, h1, h2⟩ := h.ex
  exact ⟨fun pins s σ H R I ⟨W, r, w, fr, hp⟩ => h1.run pins s σ H R I (h2 W H σ r w fr R hp)⟩
def W2 (W : Addr → Prop) (Dl : Addr) (fp : List Addr) : Addr → Prop := fun a => W a ∨ a = Dl ∨ a ∈ fp
/-- the list that grows -/
structure AccF (cm : Cm) (W : Addr → Prop) (H1 : Hp) (Dl : Addr) (H' : Hp) (ys : List D) (vs : List V) (fp : List Addr) : Prop where
  ex : Ex H1 H'
  dl : H' Dl = some (.lst vs)
  rp : Reps cm (W2 W Dl fp) H' vs ys fp
  fn : FpN true H1 fp
  nd : Dl ∉ fp
theorem AccF.later {W : Addr → Prop} {H1 H' : Hp} {Dl : Addr} {ys : List D} {vs : List V} {fp : List Addr} (h : AccF cm W H1 Dl H' ys vs fp) (w : WOk cm W H1) (hD : H1 Dl = none) : Later cm W H1 (W2 W Dl fp) H' := by
  refine ⟨fun a z => ?_, fun a o z _ t => h.ex.get a o z t, ⟨fun a z => ?_, h.ex.tb w.2⟩⟩
  · rcases z with z | z | z
    · exact .inl z
    · exact .inr (by rw [z]; exact hD)
    · exact .inr (h.fn.2 a z)
  · rcases z with z | z | z
    · exact (w.ex h.ex).1 a z
    · rw [z]; exact ⟨_, h.dl, rfl⟩
    · exact h.rp.own a z
theorem AccF.next {W : Addr → Prop} {H1 H' H2 : Hp} {Dl : Addr} {ys : List D} {vs : List V} {fp : List Addr} (h : AccF cm W H1 Dl H' ys vs fp) (e : Ex H' H2) : AccF cm W H1 Dl H2 ys vs fp := ⟨h.ex.trans e, e _ _ h.dl, h.rp.ex e, h.fn, h.nd⟩
theorem AccF.push {W : Addr → Prop} {H1 H4 H5 : Hp} {Dl : Addr} {ys : List D} {vs : List V} {fp fp5 : List Addr} {v5 : V} {y : D} (h : AccF cm W H1 Dl H4 ys vs fp) (hD : H1 Dl = none) (e5 : Ex H4 H5) (r5 : Rep cm (Wp (W2 W Dl fp) fp5) H5 v5 y fp5) (f5 : FpN true H4 fp5) : AccF cm W H1 Dl (upd H5 Dl (.lst (vs ++ [v5]))) (ys ++ [y]) (vs ++ [v5]) (fp ++ fp5) := by
  have hnD : ∀ a ∈ fp5, a ≠ Dl := fun a m z => by
    subst z
    have := f5.2 _ m
    rw [h.dl] at this
    cases this
  have nDn : ∀ a ∈ fp ++ fp5, a ≠ Dl := fun a m z => by
    rcases List.mem_append.mp m with m | m
    · subst z; exact h.nd m
    · exact hnD a m z
  have up : ∀ a, W2 W Dl (fp ++ fp5) a → W2 W Dl fp a ∨ a ∈ fp5 := fun a z => by
    rcases z with z | z | z
    · exact .inl (.inl z)
    · exact .inl (.inr (.inl z))
    · rcases List.mem_append.mp z with z | z
      · exact .inl (.inr (.inr z))
      · exact .inr z
  refine ⟨ex_new (h.ex.trans e5) hD ⟨_, e5 _ _ h.dl, rfl⟩, upd_same, ?_, ?_, fun m => nDn _ m rfl⟩
  · have keep : ∀ a o, H5 a = some o → isTb o = false → (¬ W2 W Dl (fp ++ fp5) a ∨ a ∈ fp ++ fp5) → upd H5 Dl (.lst (vs ++ [v5])) a = some o := fun a o z _ c => by
      rw [upd_ne]
      · exact z
      · rcases c with c | c
        · exact fun q => c (.inr (.inl q))
        · exact nDn a c
    have h1 : Reps cm (W2 W Dl (fp ++ fp5)) H5 vs ys fp := h.rp.move (fun a z => (up a z).imp id (f5.2 a)) fun a o z t _ => e5.get a o z t
    have h2 : Rep cm (W2 W Dl (fp ++ fp5)) H5 v5 y fp5 := r5.move (fun a z => .inl (up a z)) fun _ _ z _ _ => z
    have all : Reps cm (W2 W Dl (fp ++ fp5)) H5 (vs ++ [v5]) (ys ++ [y]) (fp ++ (fp5 ++ [])) := Reps.app h1 (.cons h2 .nil)
    rw [List.append_nil] at all
    exact all.move (fun a z => .inl z) keep
  · exact fpN_app h.fn (fun a m => (h.rp.own a m).there) h.ex f5
theorem FRep.later {W W' : Addr → Prop} {H1 H2 : Hp} {σ : St} {r : Env} (h : FRep cm W H1 σ r) (l : Later cm W H1 W' H2) : FRep cm W' H2 σ r := ⟨h.1, fun i d q => by
  obtain ⟨v, h1, h2⟩ := h.2 i d q
  exact ⟨v, h1, h2.later l⟩⟩
def turn2 (vs : List Nat) (g : D → Env → Out Env) (tt : Env → Out Bool) (it1 : Env → Out (List D)) (vs1 : List Nat) (g1 : D → Env → Out Env) (tt1 : Env → Out Bool) (el : F) (r : Env) (d : D) : Out (List D) :=
  (g d (wipeE r vs)).bind fun r2 => (tt r2).bind fun b => if b = true then (it1 r2).bind fun ds => turns (turn vs1 g1 tt1 el r2) ds else .ok []
def turns2 (h : D → Out (List D)) : List D → Out (List D)
  | [] => .ok []
  | d :: ds => (h d).bind fun ys => (turns2 h ds).bind fun zs => .ok (ys ++ zs)
def cLc2 (it : Env → Out (List D)) (vs : List Nat) (g : D → Env → Out Env) (tt : Env → Out Bool) (it1 : Env → Out (List D)) (vs1 : List Nat) (g1 : D → Env → Out Env) (tt1 : Env → Out Bool) (el : F) : F := fun r => (it r).bind fun ds => (safe (turns2 (turn2 vs g tt it1 vs1 g1 tt1 el r) ds)).bind fun ys => if ys.length ≤ 1000000 then .ok (.lst true ys) else .bad
theorem Post.get {α : Type} {o : Out α} {q : α → Prop} (h : Post o q DL.noX) : ∃ a, o = .ok a ∧ q a := by
  cases o with
  | ok a => exact ⟨a, rfl, h⟩
  | exn x r => exact h.elim
  | bad => exact h.elim
theorem obind_ok {α β : Type} {o : Out α} {f : α → Out β} {y : β} (h : o.bind f = .ok y) : ∃ a, o = .ok a ∧ f a = .ok y := by
  cases o with
  | ok a => exact ⟨a, rfl, h⟩
  | exn x r => cases h
  | bad => cases h
theorem opost_of {α : Type} {o : Out α} {a : α} {q : α → Prop} {e : Xc → Env → Prop} (h : o = .ok a) (k : q a) : Post o q e := by
  rw [h]; exact k
theorem lc2_con {ts ts1 : List Nat} {it it1 : Env → Out (List D)} {g g1 : D → Env → Out Env} {tt tt1 : Env → Out Bool} {el : F} {wi : TI} (i2 : ∀ W H σ r, WOk cm W H → FRep cm W H σ r → ∀ R, Post (it r) (fun items => ∀ J H1, Ex H H1 → IsIt cm J items W H1 → R J H1) (XPost cm (E σ) W H) → wi σ H R) :
    ECon cm E true (tLc2 wi (tgOf cm ts g) (ttOf cm E0' tt) (tiOf cm E0' it1) (tgOf cm ts1 g1) (ttOf cm E0' tt1) (teOf cm E0' true el) ts ts1) (cLc2 it ts g tt it1 ts1 g1 tt1 el) := by
  intro W H σ r w fr Q hp
  refine i2 W H σ r w fr _ (hp.bind.mono (fun ds q J H1 e1 isit => ?_) fun _ _ z => z)
  intro Dl hD
  obtain ⟨all, hall, q⟩ := (Post.bind q).safe.get
  split at q
  case isFalse => exact q.elim
  rename_i hlen
  have w1 : WOk cm W H1 := w.ex e1
  refine ⟨fun i m H' => m = ds.length - i ∧ i ≤ ds.length ∧ ∃ ys vs fp zs, AccF cm W H1 Dl H' ys vs fp ∧ turns2 (turn2 ts g tt it1 ts1 g1 tt1 el r) (ds.drop i) = .ok zs ∧ all = ys ++ zs, ⟨ds.length, by simp, Nat.zero_le _, [], [], [], all, ⟨Ex.new hD, upd_same, .nil, FpN.nil, by simp⟩, hall, rfl⟩, ?_⟩
  rintro i m H' ⟨rfl, hi, ys, vs, fp, zs, ac, hz, hy⟩
  have hl := ac.later w1 hD
  by_cases hlt : i < ds.length
  · right
    obtain ⟨d, hd⟩ : ∃ d, ds[i]? = some d := ⟨ds[i], by simp [hlt]⟩
    obtain ⟨go, yl⟩ := (isit (W2 W Dl fp) H' i hl).1 d hd
    refine ⟨go, fun H5 => ∃ ys vs fp zs, AccF cm W H1 Dl H5 ys vs fp ∧ turns2 (turn2 ts g tt it1 ts1 g1 tt1 el r) (ds.drop (i + 1)) = .ok zs ∧ all = ys ++ zs, fun H5 h5 => ⟨ds.length - (i + 1), by omega, rfl, hlt, h5⟩, fun x H3 y => ?_⟩
    obtain ⟨e3, r3⟩ := yl x H3 y
    have hdrop : ds.drop i = d :: ds.drop (i + 1) := by
      rw [List.drop_eq_getElem_cons hlt]
      congr 1
      have := List.getElem?_eq_getElem hlt
      rw [this] at hd
      exact Option.some.inj hd
    rw [hdrop] at hz
    obtain ⟨us, hu, hz⟩ := obind_ok hz
    obtain ⟨zs', hz', hz⟩ := obind_ok hz
    cases hz
    obtain ⟨r2, hr2, hu⟩ := obind_ok hu
    obtain ⟨bb, hbb, hu⟩ := obind_ok hu
    have ac3 := ac.next e3
    have l3 := ac3.later w1 hD
    have fr3 : FRep cm (W2 W Dl fp) H3 (wipe σ ts) (wipeE r ts) := ((fr.wipe ts).ex e1).later l3
    refine ⟨W2 W Dl fp, wipeE r ts, d, fr3, r3, opost_of hr2 fun σ2 fr2 w2 => ⟨by rw [w2, wipe_wipe], ?_⟩⟩
    refine ⟨W2 W Dl fp, r2, l3.2.2, fr2, opost_of hbb fun H4 e4 => ?_⟩
    have ac4 := ac3.next e4
    cases bb with
    | false =>
      cases hu
      exact ⟨ys, vs, fp, zs', ac4, hz', hy⟩
    | true =>
      obtain ⟨ds1, hds1, hu⟩ := obind_ok (show (it1 r2).bind (fun ds => turns (turn ts1 g1 tt1 el r2) ds) = .ok us from hu)
      have l4 := ac4.later w1 hD
      refine ⟨W2 W Dl fp, r2, l4.2.2, fr2.ex e4, opost_of hds1 fun J1 H5 e5 isit1 => ?_⟩
      have ac5 := ac4.next e5
      have fr5 := (fr2.ex e4).ex e5
      refine ⟨fun j k H6 => k = ds1.length - j ∧ j ≤ ds1.length ∧ ∃ ys vs fp6 ws, AccF cm W H1 Dl H6 ys vs fp6 ∧ (∀ a ∈ fp6, a ∈ fp ∨ H5 a = none) ∧ ((∀ a o, H5 a = some o → isTb o = false → a ≠ Dl → H6 a = some o) ∧ ∀ a, H6 a = none → H5 a = none) ∧ turns (turn ts1 g1 tt1 el r2) (ds1.drop j) = .ok ws ∧ all = ys ++ (ws ++ zs'), ⟨ds1.length, by simp, Nat.zero_le _, ys, vs, fp, us, ac5, fun a m => .inl m, ⟨fun _ _ z _ _ => z, fun _ z => z⟩, hu, hy⟩, ?_⟩
      rintro j k H6 ⟨rfl, hj, ys6, vs6, fp6, ws, ac6, s6, k6, hw, hy6⟩
      have lt : ∀ {H7 : Hp} {ys7 : List D} {vs7 : List V} {fp7 : List Addr}, AccF cm W H1 Dl H7 ys7 vs7 fp7 → (∀ a ∈ fp7, a ∈ fp ∨ H5 a = none) → ((∀ a o, H5 a = some o → isTb o = false → a ≠ Dl → H7 a = some o) ∧ ∀ a, H7 a = none → H5 a = none) → Later cm (W2 W Dl fp) H5 (W2 W Dl fp7) H7 := fun ac7 s7 k7 => ⟨fun a z => by
          rcases z with z | z | z
          · exact .inl (.inl z)
          · exact .inl (.inr (.inl z))
          · exact (s7 a z).imp (fun z => .inr (.inr z)) id, fun a o z n t => k7.1 a o z t fun e => n (.inr (.inl e)), (ac7.later w1 hD).2.2⟩
      have l6 := lt ac6 s6 k6
      by_cases hjt : j < ds1.length
      · right
        obtain ⟨d1, hd1⟩ : ∃ d, ds1[j]? = some d := ⟨ds1[j], by simp [hjt]⟩
        obtain ⟨go1, yl1⟩ := (isit1 (W2 W Dl fp6) H6 j l6).1 d1 hd1
        refine ⟨go1, fun H9 => ∃ ys vs fp6 ws, AccF cm W H1 Dl H9 ys vs fp6 ∧ (∀ a ∈ fp6, a ∈ fp ∨ H5 a = none) ∧ ((∀ a o, H5 a = some o → isTb o = false → a ≠ Dl → H9 a = some o) ∧ ∀ a, H9 a = none → H5 a = none) ∧ turns (turn ts1 g1 tt1 el r2) (ds1.drop (j + 1)) = .ok ws ∧ all = ys ++ (ws ++ zs'), fun H9 h9 => ⟨ds1.length - (j + 1), by omega, rfl, hjt, h9⟩, fun x H7 y => ?_⟩
        obtain ⟨e7, r7⟩ := yl1 x H7 y
        have hdrop1 : ds1.drop j = d1 :: ds1.drop (j + 1) := by
          rw [List.drop_eq_getElem_cons hjt]
          congr 1
          have := List.getElem?_eq_getElem hjt
          rw [this] at hd1
          exact Option.some.inj hd1
        rw [hdrop1] at hw
        obtain ⟨o, ho, hw⟩ := obind_ok hw
        obtain ⟨ws', hw', hw⟩ := obind_ok hw
        obtain ⟨r8, hr8, ho⟩ := obind_ok ho
        obtain ⟨b8, hb8, ho⟩ := obind_ok ho
        have ac7 := ac6.next e7
        have k7 : (∀ a o, H5 a = some o → isTb o = false → a ≠ Dl → H7 a = some o) ∧ ∀ a, H7 a = none → H5 a = none := ⟨fun a o z t n => e7.get a o (k6.1 a o z t n) t, fun a z => k6.2 a (e7.back z)⟩
        have l7 := lt ac7 s6 k7
        refine ⟨W2 W Dl fp6, wipeE r2 ts1, d1, (fr5.wipe ts1).later l7, r7, opost_of hr8 fun σ3 fr8 w8 => ⟨by rw [w8, wipe_wipe], ?_⟩⟩
        refine ⟨W2 W Dl fp6, r8, l7.2.2, fr8, opost_of hb8 fun H8 e8 => ?_⟩
        have ac8 := ac7.next e8
        have k8 : (∀ a o, H5 a = some o → isTb o = false → a ≠ Dl → H8 a = some o) ∧ ∀ a, H8 a = none → H5 a = none := ⟨fun a o z t n => e8.get a o (k7.1 a o z t n) t, fun a z => k7.2 a (e8.back z)⟩
        cases b8 with
        | false =>
          cases ho
          cases hw
          exact ⟨ys6, vs6, fp6, ws', ac8, s6, k8, hw', hy6⟩
        | true =>
          obtain ⟨y8, hy8, ho⟩ := obind_ok (show (el r8).bind (fun y => Out.ok (some y)) = .ok o from ho)
          cases ho
          cases hw
          refine ⟨W2 W Dl fp6, r8, (ac8.later w1 hD).2.2, fr8.ex e8, opost_of hy8 fun v9 H9 fp9 e9 r9 f9 => ?_⟩
          have hlv : vs6.length < 1000000 := by
            rw [ac6.rp.len]
            have := congrArg List.length hy6
            simp at this
            omega
          refine ⟨vs6, (ac8.next e9).dl, Nat.lt_of_lt_of_le hlv (by decide), ys6 ++ [y8], vs6 ++ [v9], fp6 ++ fp9, ws', ac8.push hD e9 r9 f9, fun a m => ?_, ⟨fun a o z t n => ?_, fun a z => ?_⟩, hw', by rw [hy6]; simp⟩
          · rcases List.mem_append.mp m with m | m
            · exact s6 a m
            · by_cases ea : a = Dl
              · subst ea
                have := f9.2 _ m
                rw [ac8.dl] at this
                cases this
              · exact .inr (k8.2 a (f9.2 a m))
          · rw [upd_ne n]
            exact e9.get a o (k8.1 a o z t n) t
          · by_cases ea : a = Dl
            · subst ea; rw [upd_same] at z; cases z
            · rw [upd_ne ea] at z
              exact k8.2 a (e9.back z)
      · left
        have e : j = ds1.length := by omega
        subst e
        refine ⟨(isit1 (W2 W Dl fp6) H6 _ l6).2 (by simp), ?_⟩
        rw [List.drop_length] at hw
        cases hw
        exact ⟨ys6, vs6, fp6, zs', ac6, hz', hy6⟩
  · left
    have e : i = ds.length := by omega
    subst e
    refine ⟨(isit (W2 W Dl fp) H' _ hl).2 (by simp), ?_⟩
    rw [List.drop_length] at hz
    cases hz
    rw [List.append_nil] at hy
    subst hy
    refine q (.ref Dl) H' (Dl :: fp) (e1.trans ac.ex) (.lstO ac.dl (ac.rp.move (fun a z => .inl ?_) fun a o z _ _ => z)) ⟨List.nodup_cons.mpr ⟨ac.nd, ac.fn.1⟩, fun a m => ?_⟩
    · rcases z with z | z
      · exact .inl z
      · exact .inr (List.mem_cons.mp z)
    · rcases List.mem_cons.mp m with rfl | m
      · exact e1.back hD
      · exact e1.back (ac.fn.2 a m)
theorem DG.wide {ts us : List Nat} {g : D → Env → Out Env} (h : DG X cm tg ts g) (hs : ∀ i ∈ ts, i ∈ us) : DG X cm tg us g := by
  obtain ⟨t, h1, h2⟩ := h.ex
  exact ⟨t, h1, fun W H σ r v d fr rp Q hp => h2 W H σ r v d fr rp Q (hp.mono (fun r' q σ' fr' w' => q σ' fr' (wipe_sub w' hs)) fun _ _ z => z)⟩
theorem de_lc2 {elt iter tg1 iter1 : Expr} {ifs ifs1 : List Expr} {scope : Scope} {own : List (Str × Nat)} {ts ts1 : List Nat} {it it1 : Env → Out (List D)} {g g1 : D → Env → Out Env} {tt tt1 : Env → Out Bool} {el : F} (hc : X.calm = true) (hN : X.N.Nodup) (hi : DI X cm E tg iter it) (ok : BlkOk X.N X.env.scope scope own) (hts : own.map (·.2) = ts) (hv : ∀ i ∈ ts1, i ∈ own.map (·.2))
    (hg : ∀ (s : Shared) (H : Hp) (C : Addr) (cl : List (Str × Addr)) (fp : List Addr), DG (X.blk s H scope (compEnvC scope cl C X.env) fp) cm tg ts g) (ht : ∀ (s : Shared) (H : Hp) (C : Addr) (cl : List (Str × Addr)) (fp : List Addr), DTs (X.blk s H scope (compEnvC scope cl C X.env) fp) cm E0' ifs tt)
    (hi1 : ∀ (s : Shared) (H : Hp) (C : Addr) (cl : List (Str × Addr)) (fp : List Addr), DI (X.blk s H scope (compEnvC scope cl C X.env) fp) cm E0' tg1 iter1 it1)
    (hg1 : ∀ (s : Shared) (H : Hp) (C : Addr) (cl : List (Str × Addr)) (fp : List Addr), DG (X.blk s H scope (compEnvC scope cl C X.env) fp) cm tg1 ts1 g1) (ht1 : ∀ (s : Shared) (H : Hp) (C : Addr) (cl : List (Str × Addr)) (fp : List Addr), DTs (X.blk s H scope (compEnvC scope cl C X.env) fp) cm E0' ifs1 tt1)
    (he : ∀ (s : Shared) (H : Hp) (C : Addr) (cl : List (Str × Addr)) (fp : List Addr), DE (X.blk s H scope (compEnvC scope cl C X.env) fp) cm E0' true elt el) (hs : ∀ x, foldedSetIterable iter X.env x = pure x := by intro _; rfl) (hs1 : ∀ env x, foldedSetIterable iter1 env x = pure x := by intro _ _; rfl) :
    DE X cm E true (.ListComp elt [⟨tg, iter, ifs, 0⟩, ⟨tg1, iter1, ifs1, 0⟩] scope pos) (cLc2 it ts g tt it1 ts1 g1 tt1 el) := by
  obtain ⟨wi, i1, i2⟩ := hi.ex
  refine ⟨_, pe_lc2 (vs1 := ts1) hc hN i1 ok hv (fun s H C cl fp => (hg s H C cl fp).pg) (fun s H C cl fp => (ht s H C cl fp).pts) (fun s H C cl fp => (hi1 s H C cl fp).pi) (fun s H C cl fp => (hg1 s H C cl fp).pg) (fun s H C cl fp => (ht1 s H C cl fp).pts) (fun s H C cl fp => (he s H C cl fp).pe) hs hs1, ?_⟩
  rw [hts]
  exact lc2_con i2
/-! tables of classes -/
def tab (l : List (Str × Bool)) (c : Str) : Option Bool := l.lookup c
theorem tab_nil {P : Str → Bool → Prop} : ∀ c b, tab [] c = some b → P c b := fun _ _ h => nomatch h
theorem tab_cons {P : Str → Bool → Prop} {k : Str} {v : Bool} {l : List (Str × Bool)} (h : P k v) (t : ∀ c b, tab l c = some b → P c b) : ∀ c b, tab ((k, v) :: l) c = some b → P c b := by
  intro c b q
  unfold tab at q
  rw [List.lookup_cons] at q
  split at q
  · rename_i e
    cases q
    rw [eq_of_beq e]
    exact h
  · exact t c b q
def clT (l : List (Str × Addr)) (s : Str) : Addr := (l.lookup s).getD 0
end
end DL

namespace DL
variable [Tbs]
open PySem L2
section
variable {X : Cx} {cm : Cm} {E : XS} {b : Bool} {pos : Pos} {a c tg : Expr} {fa fb : F}
/-! ### x[::-1] -/
def revS (z : Str) : Str := ⟨z.cps.toList.reverse.toArray⟩
def tRevS (te : TE) : TE := fun σ H Q => te σ H fun x H1 => ∃ z, x = .str z ∧ z.length ≤ sizeLine ∧ Q (.str (revS z)) H1
theorem rev_pick (z : Str) : ((Builtin.Str.strSliceIndices none none (-1) z.length).filterMap (z.cps[·]?)).toArray = (revS z).cps := by
  rw [PyProof.Rows.picked_rev, PyProof.Rows.filterMap_get, List.map_map]
  · unfold revS
    congr 1
    obtain ⟨⟨l⟩⟩ := z
    show (List.range l.length).map _ = l.reverse
    apply List.ext_getElem?
    intro i
    by_cases hi : i < l.length
    · rw [List.getElem?_map, List.getElem?_range hi, List.getElem?_reverse hi]
      have hl : ({ cps := { toList := l } } : Str).length = l.length := rfl
      rw [hl]
      simp [Array.getD, show l.length - 1 - i < l.length by omega]
    · rw [List.getElem?_eq_none (by simpa using hi), List.getElem?_eq_none (by simpa using hi)]
  · intro i hi
    obtain ⟨k, hk, rfl⟩ := List.mem_map.mp hi
    have hk' : k < z.length := List.mem_range.mp hk
    show z.length - 1 - k < z.length
    omega
theorem pe_revS {e : Expr} {te : TE} {k : Nat} {p1 p2 p3 pos : Pos} (he : PE X e te) : PE X (.Subscript e (.Slice none none (some (.UnaryOp .USub (.Constant (.int 1) k p1) p2)) p3) pos) (tRevS te) := by
  refine ⟨fun pins s σ H Q I h => ?_⟩
  refine PyProof.Rows.Subscript_ (thn (he.run pins s σ H _ I h) fun v s1 ⟨x, H1, I1, r1, q1⟩ => ?_)
  obtain ⟨z, ex, hz, q⟩ := q1
  subst ex
  obtain ⟨t, rfl⟩ := r1
  have hst : PO X (some (.UnaryOp .USub (.Constant (.int 1) k p1) p2)) (tPart (tUn (rU fun i => .int (-i)) (tC (.int 1)))) := po_some (pe_un un_neg pe_int)
  refine wpAny_Slice (thn (po_none.run pins s1 σ H1 (fun o H2 => o = none ∧ H2 = H1) I1 ⟨rfl, rfl⟩) fun vl s2 ⟨l, H2, I2, pl, el, e2⟩ => ?_)
  subst el e2
  refine thn (po_none.run pins s2 σ H2 (fun o H3 => o = none ∧ H3 = H2) I2 ⟨rfl, rfl⟩) fun vu s3 ⟨u, H3, I3, pu, eu, e3⟩ => ?_
  subst eu e3
  refine thn (hst.run pins s3 σ H3 (fun o H4 => o = some (-1) ∧ H4 = H3) I3 ⟨1, rfl, -1, rfl, rfl, rfl⟩) fun vs s4 ⟨o, H4, I4, ps, eo, e4⟩ => ?_
  subst eo e4
  have I5 : Inv X pins σ H4 { s4 with heap := s4.heap.push { cls := .type "slice", data := .fields #[vl, vu, vs] } } := I4.kept (t' := s4.toks) fun b ob q => Heap.get?_push_of_some _ q
  obtain ⟨l1, rfl, hl1⟩ := IsPart.raw pl
  obtain ⟨u1, rfl, hu1⟩ := IsPart.raw pu
  obtain ⟨st1, rfl, hs1⟩ := IsPart.raw ps
  cases l1 with
  | some _ => cases hl1
  | none =>
  cases u1 with
  | some _ => cases hu1
  | none =>
  cases st1 with
  | none => cases hs1
  | some st =>
  obtain ⟨i, tk⟩ := st
  cases hs1
  show wpAny (model X.prog X.w) X.A (PyProof.Rows.subscriptTail e (.Slice none none (some (.UnaryOp .USub (.Constant (.int 1) k p1) p2)) p3) (.str z t) (.ref s4.heap.objs.size)) (EP X pins σ Q) X.xe _
  refine PyProof.Rows.tail_any (ops := [.str z t, .ref s4.heap.objs.size]) (typeIs_str _ _ _) (F.slot_str_getitem.lookup) ?_ (by with_unfolding_all rfl)
  obtain ⟨os, hos, hcs, hds⟩ := Heap.IsSliceOf.new s4.heap (partValue none) (partValue none) (partValue (some (-1, tk)))
  refine PySem.wpAny_getItem_str_slice (l := none) (u := none) (st := some (-1, tk)) ⟨os, hos, hcs, hds⟩ rfl ?_
  have q' : Q (.str ⟨((Builtin.Str.strSliceIndices none none (-1) z.length).filterMap (z.cps[·]?)).toArray⟩) H4 := by
    rw [rev_pick]; exact q
  have hl : (⟨((Builtin.Str.strSliceIndices none none (-1) z.length).filterMap (z.cps[·]?)).toArray⟩ : Str).length ≤ sizeLine := by
    rw [rev_pick]
    show (z.cps.toList.reverse.toArray).size ≤ sizeLine
    simpa [Str.length] using hz
  show Made.post (if ((-1 : Int) == 1 && _) = true then _ else Made.str ⟨((Builtin.Str.strSliceIndices none none (-1) z.length).filterMap (z.cps[·]?)).toArray⟩) (EP X pins σ Q) _
  rw [show ((-1 : Int) == 1) = false from rfl, Bool.false_and, if_neg Bool.false_ne_true]
  exact ⟨hl, .str _, H4, I5.tok _, ⟨_, rfl⟩, q'⟩
def gRevS : D → Out D := fun d => match d with
  | .str cs => if cs.length ≤ 1000000 then .ok (.str cs.reverse) else .bad
  | _ => .bad
theorem de_revS {k : Nat} {p1 p2 p3 : Pos} (ha : DE X cm E false a fa) : DE X cm E b (.Subscript a (.Slice none none (some (.UnaryOp .USub (.Constant (.int 1) k p1) p2)) p3) pos) (c1 gRevS fa) := by
  obtain ⟨ta, h1, h2⟩ := ha.ex
  refine ⟨_, pe_revS h1, fun W H σ r w fr Q hp => h2 W H σ r w fr _ (hp.bind.mono (fun d q v H1 fp e1 r1 f1 => ?_) fun _ _ z => z)⟩
  unfold gRevS at q
  split at q
  · rename_i cs
    split at q
    · rename_i hl
      cases r1
      refine ⟨_, rfl, ?_, ?_⟩
      · show cs.toArray.size ≤ _
        rw [List.size_toArray]
        exact line6 hl
      · have := q (.str ⟨cs.reverse.toArray⟩) H1 [] e1 (.str _) FpN.nil
        exact this
    · exact q.elim
  · exact q.elim
def gRevL : D → Out D := fun d => match d with
  | .lst _ xs => .ok (.lst true xs.reverse)
  | _ => .bad
theorem Reps.rev {W : Addr → Prop} {H : Hp} : ∀ {vs : List V} {ds : List D} {fp : List Addr}, Reps cm W H vs ds fp → fp = [] → Reps cm W H vs.reverse ds.reverse []
  | _, _, _, .nil, _ => .nil
  | _, _, _, .cons h r, e => by
    obtain ⟨rfl, rfl⟩ := app_nil e.symm
    rw [List.reverse_cons, List.reverse_cons]
    exact Reps.app (Reps.rev r rfl) (.cons h .nil)
theorem de_revL {k : Nat} {p1 p2 p3 : Pos} (ha : DE X cm E false a fa) : DE X cm E true (.Subscript a (.Slice none none (some (.UnaryOp .USub (.Constant (.int 1) k p1) p2)) p3) pos) (c1 gRevL fa) := by
  obtain ⟨ta, h1, h2⟩ := ha.ex
  refine ⟨_, pe_revL h1, fun W H σ r w fr Q hp => h2 W H σ r w fr _ (hp.bind.mono (fun d q v H1 fp e1 r1 f1 => ?_) fun _ _ z => z)⟩
  unfold gRevL at q
  split at q
  · cases (show fp = [] from f1)
    generalize hf : ([] : List Addr) = fp at r1
    cases r1 with
    | lstO => cases hf
    | lstF h n rs =>
      rw [wp_nil] at rs
      refine ⟨_, _, rfl, SqL.of h, fun p hp' => q (.ref p) _ [p] (e1.trans (Ex.new hp')) (.lstO (fp := []) upd_same ((Reps.rev rs rfl).newW hp')) ⟨by simp, fun a m => by cases List.mem_singleton.mp m; exact e1.back hp'⟩⟩
  · exact q.elim
/-! ### tuple(x), x + y of tuples -/
def gTupOf : D → Out D := fun d => match d with
  | .lst _ xs => .ok (.tup xs)
  | .tup xs => .ok (.tup xs)
  | _ => .bad
theorem de_tupOf {p : Pos} (hg : Gl X "tuple") (hm : X.mg "tuple" = none) (ha : DE X cm E false a fa) (na : starEach [a] X.env = (false, eval a X.env) :: starEach [] X.env := by rfl) : DE X cm E b (.Call (.Name "tuple" p) [a] [] pos) (c1 gTupOf fa) := by
  obtain ⟨ta, h1, h2⟩ := ha.ex
  refine ⟨_, pe_tupleOf hg hm h1 na, fun W H σ r w fr Q hp => h2 W H σ r w fr _ (hp.bind.mono (fun d q v H1 fp e1 r1 f1 => ?_) fun _ _ z => z)⟩
  cases (show fp = [] from f1)
  unfold gTupOf at q
  split at q
  · generalize hf : ([] : List Addr) = fp at r1
    cases r1 with
    | lstO => cases hf
    | lstF h n rs =>
      refine .inl ⟨_, _, rfl, SqL.of h, fun p hp' => q (.ref p) _ [] (e1.trans (Ex.new hp')) (.tup upd_same ?_ (rs.ex (Ex.new hp'))) FpN.nil⟩
      intro z
      have := (w.ex e1).1 p (by simpa [Wp] using z)
      exact this.there hp'
  · generalize hf : ([] : List Addr) = fp at r1
    cases r1 with
    | tup h n rs =>
      subst hf
      exact .inr ⟨_, _, rfl, SqT.of h, q _ H1 [] e1 (.tup h n rs) FpN.nil⟩
  · exact q.elim
def gCatT : D → D → Out D := fun x y => match x, y with
  | .tup u, .tup v => if u ≠ [] ∧ v ≠ [] ∧ u.length + v.length ≤ 1000000 then .ok (.tup (u ++ v)) else .bad
  | _, _ => .bad
theorem o_catT : Op2' cm true (rCatT X.K) gCatT := fun W H x y dx dy w rx ry Q hp => by
  unfold gCatT at hp
  split at hp
  · split at hp
    · rename_i hz
      generalize hf : ([] : List Addr) = fp at rx
      generalize hg : ([] : List Addr) = fq at ry
      cases rx with
      | tup h n r =>
        cases ry with
        | tup h' n' r' =>
          subst hf hg
          have l1 := r.len
          have l2 := r'.len
          have n1 : ∀ {us : List V} {ds : List D}, us.length = ds.length → ds ≠ [] → us ≠ [] := fun e q z => by
            subst z
            exact q (List.length_eq_zero_iff.mp e.symm)
          refine ⟨_, _, _, _, rfl, rfl, SqT.of h, SqT.of h', n1 l1 hz.1, by rw [l1, l2]; exact line6 hz.2.2, fun z => absurd z (n1 l2 hz.2.1), fun _ p hp' => hp (.ref p) _ [] (Ex.new hp') ?_ FpN.nil⟩
          rw [wp_nil]
          refine .tup upd_same ?_ ((Reps.app r r').ex (Ex.new hp'))
          intro z
          exact (w.1 p z).there hp'
    · exact hp.elim
  · exact hp.elim
theorem noEx_catT : NoEx gCatT := fun a b x r h => by
  unfold gCatT at h
  split at h
  · split at h <;> cases h
  · cases h
theorem de_catT (ha : DE X cm E false a fa) (hc : DE X cm E false c fb) : DE X cm E true (.BinOp a .Add c pos) (c2 gCatT fa fb) := de_op op_catT o_catT noEx_catT ha hc
end
end DL

namespace DL
variable [Tbs]
open PySem L2
open PyProof.Rows (envOfC)
theorem guards_make {A : Around} {C : Addr} {us : List Value} {kw : List (Str × Value)} (h : A.guards = some []) : (A.under (.builtin "type.__call__" ⟨.ref C :: us, kw⟩)).guards = some [] := by
  first | exact h | simpa [Around.under, Code.weight, Code.isCreation, Code.isGuard, Code.isCaller, Code.frames, Code.isFrame, guardIds] using h
theorem RoomG.make {k : Nat} {A : Around} (r : RoomG (k + 1) A) (C : Addr) (us : List Value) (kw : List (Str × Value)) : RoomG k (A.under (.builtin "type.__call__" ⟨.ref C :: us, kw⟩)) := ⟨r.rm.make C us kw, guards_make r.gd⟩

/-! ### methods and making, what is raised wished for at the slots -/
def tMethG (C : Addr) (m : Str) (sp : Sp) (dvs : List V) (E : XS) (ta : TE) (t : TA) : TE := fun σ H Q => ta σ H fun x H1 => ∃ a dx fs, x = .ref a ∧ H1 a = some (.ins C dx fs) ∧ fs.lookup m = none ∧
  t σ H1 fun vs H2 => sp (x :: (vs ++ dvs)) H2 Q (E σ)
def tMakeG (C : Addr) (sp : Sp) (dvs : List V) (E : XS) (t : TA) : TE := fun σ H Q => t σ H fun vs H1 => ∀ x dx, H1 x = none → H1 dx = none → dx ≠ x →
  sp (.ref x :: (vs ++ dvs)) (upd (upd H1 dx (.own x)) x (.ins C dx [])) (fun v H2 => v = .non ∧ Q (.ref x) H2) (E σ)
section
variable {X : Cx} {k : Nat} {f C : Addr} {fd : FuncData} {ps : List Str} {sp : Sp} {dvs : List V} {ds : List Value} {E : XS} {x m : Str} {p pos apos : Pos} {e o : Expr} {es : List Expr} {ta : TE} {t : TA}
theorem pe_methG {pl : Sem Bool} (he : PE X o ta) (c : Cls X.K C) (hm : Meth X.K C m f) (F : FnG X.prog X.w X.K X.mg X.base k f fd ps sp) (hr : RoomG k X.A) (hb : Binds X.K fd ps ds) (hd : Vals dvs ds) (hx : PassG X E) (ha : PA X (e :: es) t)
    (hst : starEach (e :: es) X.env = (false, eval e X.env) :: starEach es X.env := by rfl) (hpl : (backTo pos (starEach es X.env)).any (·.1) = false := by rfl)
    (ht : eval (.Call (.Attribute o m apos) (e :: es) [] pos) X.env = (do
      let ov ← eval o X.env
      standAt apos.atName
      let (f, first) ← holding [ov] (getMethod ov m pl)
      callWith pos f first (backTo pos (starEach (e :: es) X.env)) (backToKw pos (keywordEach [] X.env))) := by rfl) :
    PE X (.Call (.Attribute o m apos) (e :: es) [] pos) (tMethG C m sp dvs E ta t) := by
  refine ⟨fun pins s σ H Q I h => ?_⟩
  refine PySem.W.methodCall_KW (pl := pl) (thn (he.run pins s σ H _ I h) fun u s1 ⟨x, H1, I1, rx, a, dx, fs, ex, ea, l, q⟩ => ?_) ht
  subst ex
  obtain rfl : u = Value.ref a := rx
  refine getmeth_ok I1 ea c hm l ?_
  refine PySem.W.callWith_K (first := [.ref a]) (h₀ := X.base) I.ok.mod.kin hm.kp (thn (ha.run pos pins s1 σ H1 _ I1 q) fun us s2 ⟨vs, H2, I2, r, q2⟩ => ⟨I2.kIn, ?_⟩) hst hpl
  exact run_fnG (us := .ref a :: us) (vs := .ref a :: vs) F hr hb hd hx I2 (.cons rfl r) q2
theorem pe_meth0G {pl : Sem Bool} (he : PE X o ta) (c : Cls X.K C) (hm : Meth X.K C m f) (F : FnG X.prog X.w X.K X.mg X.base k f fd ps sp) (hr : RoomG k X.A) (hb : Binds X.K fd ps ds) (hd : Vals dvs ds) (hx : PassG X E)
    (ht : eval (.Call (.Attribute o m apos) [] [] pos) X.env = (do
      let ov ← eval o X.env
      standAt apos.atName
      let (f, first) ← holding [ov] (getMethod ov m pl)
      callWith pos f first (backTo pos (starEach [] X.env)) (backToKw pos (keywordEach [] X.env))) := by rfl) :
    PE X (.Call (.Attribute o m apos) [] [] pos) (tMethG C m sp dvs E ta tNil) := by
  refine ⟨fun pins s σ H Q I h => ?_⟩
  refine PySem.W.methodCall_KW (pl := pl) (thn (he.run pins s σ H _ I h) fun u s1 ⟨x, H1, I1, rx, a, dx, fs, ex, ea, l, q⟩ => ?_) ht
  subst ex
  obtain rfl : u = Value.ref a := rx
  refine getmeth_ok I1 ea c hm l ?_
  exact PySem.W.callWith_K0 (first := [.ref a]) I1.kIn hm.kp (run_fnG (us := [.ref a]) (vs := [.ref a]) F hr hb hd hx I1 (.cons rfl .nil) q)
theorem run_makeG {pins : List (Addr × Obj)} {σ : St} {H : Hp} {s : Shared} {Q : VK} {us : List Value} {vs : List V} (M : Mk X.K C f) (F : FnG X.prog X.w X.K X.mg X.base k f fd ps sp) (hr : RoomG (k + 1) X.A) (hb : Binds X.K fd ps ds) (hd : Vals dvs ds)
    (hx : PassG X E) (I : Inv X pins σ H s) (r : Vals vs us)
    (h : ∀ x dx, H x = none → H dx = none → dx ≠ x → sp (.ref x :: (vs ++ dvs)) (upd (upd H dx (.own x)) x (.ins C dx [])) (fun v H2 => v = .non ∧ Q (.ref x) H2) (E σ)) :
    wpAny (model X.prog X.w) X.A (call (.ref C) us) (EP X pins σ Q) X.xe s := by
  have hq := h (s.heap.objs.size + 1) s.heap.objs.size (I.hok.fresh (Nat.le_succ _)) (I.hok.fresh (Nat.le_refl _)) (Nat.ne_of_lt (Nat.lt_succ_self _))
  have I2 := Inv.made (C := C) I
  have r2 : Vals (V.ref (s.heap.objs.size + 1) :: (vs ++ dvs)) (Value.ref (s.heap.objs.size + 1) :: (us ++ ds)) := .cons rfl (r.append hd)
  have hl : (Value.ref (s.heap.objs.size + 1) :: us ++ ds).length = ps.length := by
    have e := r2.length
    rw [F.len _ _ _ _ hq] at e
    exact e.symm
  refine wpAny_call (make_map (f := f) I.kIn M.makes M.init (beq_iff_eq.mp M.fn) (codeAny_mono (F.go _ X.stack _ _ ⟨Value.ref (s.heap.objs.size + 1) :: us, []⟩ (Value.ref (s.heap.objs.size + 1) :: (us ++ ds)) _ _ (E σ) (hr.make C us [])
    (I2.env0.make C us []) (hb _ (Value.ref (s.heap.objs.size + 1) :: us) I2.kIn hl) r2 hq) fun r s' hq' => ?_))
  match r, hq' with
  | .error e, hq' => exact hx σ pins _ _ e s' I2 hq'
  | .ok (.ret u), hq' =>
    obtain ⟨v, H', I3, rv, ev, q3⟩ := I2.after hq'
    subst ev
    exact ⟨rv, ⟨V.ref (s.heap.objs.size + 1), H', I3, rfl, q3⟩⟩
theorem pe_makeG (M : Mk X.K C f) (F : FnG X.prog X.w X.K X.mg X.base k f fd ps sp) (hr : RoomG (k + 1) X.A) (hg : Gl X x) (hm : X.mg x = some (.ref C)) (hb : Binds X.K fd ps ds) (hd : Vals dvs ds) (hx : PassG X E)
    (ha : PA X (e :: es) t) (hdb : (x == ("__debug__" : Str)) = false := by decide) (he : starEach (e :: es) X.env = (false, eval e X.env) :: starEach es X.env := by rfl) (hpl : (backTo pos (starEach es X.env)).any (·.1) = false := by rfl) :
    PE X (.Call (.Name x p) (e :: es) [] pos) (tMakeG C sp dvs E t) := by
  refine ⟨fun pins s σ H Q I h => ?_⟩
  refine wpAny_Call_Name_kw (ld_glob I hg hm ?_ hdb)
  refine PySem.W.callWith_K (h₀ := X.base) I.ok.mod.kin M.kp (thn (ha.run pos pins s σ H _ I h) fun us s1 ⟨vs, H1, I1, r, q⟩ => ⟨I1.kIn, ?_⟩) he hpl
  exact run_makeG M F hr hb hd hx I1 r q
end

/-! ### fields -/
def getFD (f : Str) : List Str → List D → Option D
  | g :: gs, d :: ds => if f = g then some d else getFD f gs ds
  | _, _ => none
theorem getFD_rep {cm : Cm} {W : Addr → Prop} {H : Hp} {f : Str} : ∀ {fs : List Str} {vs : List V} {ds : List D}, Reps cm W H vs ds [] → ∀ {d : D}, getFD f fs ds = some d → ∃ v, (fs.zip vs).lookup f = some v ∧ Rep cm W H v d []
  | [], _, ds, _, d, h => by unfold getFD at h; cases h
  | g :: gs, _, [], _, d, h => by unfold getFD at h; cases h
  | g :: gs, vs, d0 :: ds, r, d, h => by
    generalize hf : ([] : List Addr) = fp at r
    cases r with
    | cons h0 r0 =>
      obtain ⟨rfl, rfl⟩ := app_nil hf
      unfold getFD at h
      rw [List.zip_cons_cons, List.lookup_cons]
      by_cases e : f = g
      · rw [if_pos e] at h
        cases h
        rw [beq_iff_eq.mpr e]
        exact ⟨_, rfl, h0⟩
      · rw [if_neg e] at h
        rw [beq_false_of_ne e]
        exact getFD_rep r0 h
def gFld (c f : Str) : D → Out D := fun d => match d with
  | .obj _ c' fs xs => if c' = c then ofO (getFD f fs xs) else .bad
  | _ => .bad
def isOb (c m : Str) : D → Bool
  | .obj _ c' fs _ => decide (c' = c) && fs.all fun g => decide (m ≠ g)
  | _ => false
theorem lookup_zip_none {m : Str} : ∀ {fs : List Str} {vs : List V}, (fs.all fun g => decide (m ≠ g)) = true → (fs.zip vs).lookup m = none
  | [], _, _ => rfl
  | g :: gs, [], _ => rfl
  | g :: gs, v :: vs, h => by
    rw [List.all_cons, Bool.and_eq_true, decide_eq_true_eq] at h
    rw [List.zip_cons_cons, List.lookup_cons, beq_false_of_ne h.1]
    exact lookup_zip_none h.2
theorem Rep.isOb {cm : Cm} {W : Addr → Prop} {H : Hp} {v : V} {d : D} {fp : List Addr} {c m : Str} (r : Rep cm W H v d fp) (h : isOb c m d = true) : cm.ok c ∧ ∃ p dx fs, v = .ref p ∧ H p = some (.ins (cm.cl c) dx fs) ∧ fs.lookup m = none := by
  cases r with
  | objO h1 l r =>
    unfold DL.isOb at h
    rw [Bool.and_eq_true, decide_eq_true_eq] at h
    obtain ⟨rfl, h⟩ := h
    exact ⟨l.2, _, _, _, rfl, h1, lookup_zip_none h⟩
  | objF h1 l n r =>
    unfold DL.isOb at h
    rw [Bool.and_eq_true, decide_eq_true_eq] at h
    obtain ⟨rfl, h⟩ := h
    exact ⟨l.2, _, _, _, rfl, h1, lookup_zip_none h⟩
  | _ => cases h
section
variable {X : Cx} {cm : Cm} {E : XS} {b : Bool} {pos p apos : Pos} {ks : Nat → Bool} {a c e o : Expr} {es : List Expr} {x : Str} {k n : Nat} {ps : List Str} {fa : F}
theorem de_fld {cl f : Str} (hk : X.K = cm.K) (hC : CmOk cm) (hn : NoAttr X.K (cm.cl cl) f) (ha : DE X cm E false a fa) (hb : attributeBase a f X.env (eval a X.env) = eval a X.env := by rfl) : DE X cm E b (.Attribute a f pos) (c1 (gFld cl f) fa) := by
  obtain ⟨ta, h1, h2⟩ := ha.ex
  refine ⟨_, pe_fld h1 hb, fun W H σ r w fr Q hp => h2 W H σ r w fr _ (hp.bind.mono (fun d q v H1 fp e1 r1 f1 => ?_) fun _ _ z => z)⟩
  cases (show fp = [] from f1)
  unfold gFld at q
  split at q
  · rename_i o' c' fs xs
    split at q
    · rename_i hc
      subst hc
      cases hg : getFD f fs xs with
      | none => rw [hg] at q; exact q.elim
      | some d' =>
        rw [hg] at q
        have key : ∀ {p dx : Addr} {vs : List V}, H1 p = some (.ins (cm.cl c') dx (fs.zip vs)) → cm.ok c' → Reps cm (Wp W []) H1 vs xs [] → ∃ a C dx fs' v', V.ref p = .ref a ∧ H1 a = some (.ins C dx fs') ∧ Cls X.K C ∧ NoAttr X.K C f ∧ fs'.lookup f = some v' ∧ Q v' H1 := by
          intro p dx vs hp hok hr
          obtain ⟨v', l1, l2⟩ := getFD_rep hr hg
          exact ⟨p, _, dx, _, v', rfl, hp, by rw [hk]; exact (hC _ hok).cl, hn, l1, q v' H1 [] e1 l2 FpN.nil⟩
        generalize hf : ([] : List Addr) = fp at r1
        cases r1 with
        | objO h l r => cases hf
        | objF h l nw r => exact key h l.2 r
    · exact q.elim
  · exact q.elim

/-! ### a method of an own class, ready to be called; dd: the defaults that fill up -/
structure MethOk (P : Program) (w : World) (K : PySem.W.Frag) (mg : Str → Option Value) (base : Heap) (cm : Cm) (c m : Str) (k : Nat) (ps : List Str) (dd : List D) (sp : Sp) : Prop where
  ex : ∃ f fd dvs ds, FnG P w K mg base k f fd ps sp ∧ Meth K (cm.cl c) m f ∧ Binds K fd ps ds ∧ Vals dvs ds ∧ ∀ W H, Reps cm W H dvs dd []
def cMt (c m : Str) (n : Nat) (mm : List D → Out D) (dd : List D) (fo : F) (fs : Env → Out (List D)) : F := fun r => (fo r).bind fun d => if isOb c m d = true then (fs r).bind fun ds => chk n mm (d :: (ds ++ dd)) else .bad
theorem meth_con {cl m : Str} {mm : List D → Out D} {dd : List D} {dvs : List V} {to : TE} {ta : TA} {fo : F} {fs : Env → Out (List D)} (hdd : ∀ W H, Reps cm W H dvs dd []) (h2 : ECon cm E false to fo) (h4 : ACon cm E false ta fs) : ECon cm E true (tMethG (cm.cl cl) m (spP cm n mm) dvs E to ta) (cMt cl m n mm dd fo fs) := by
  intro W H σ r w fr Q hp
  refine h2 W H σ r w fr _ (hp.bind.mono (fun d q v H1 fp e1 r1 f1 => ?_) fun _ _ z => z)
  cases (show fp = [] from f1)
  split at q
  · rename_i hob
    obtain ⟨_, p, dx, fs', rfl, hp1, hl⟩ := r1.isOb hob
    refine ⟨p, dx, fs', rfl, hp1, hl, h4 W H1 σ r (w.ex e1) (fr.ex e1) _ (q.bind.mono (fun ds q2 vs H2 fp2 e2 r2 f2 => ?_) fun _ _ z => XPost.ex e1 z)⟩
    cases (show fp2 = [] from f2)
    unfold chk at q2
    split at q2
    · rename_i hlen
      exact ⟨W, d :: (ds ++ dd), (w.ex e1).ex e2, .cons (fp := []) (r1.ofP.ex e2) (Reps.app r2.ofP (hdd W H2)), hlen, q2.mono (fun d' q3 z H3 fp3 e3 r3 f3 => q3 z H3 fp3 (e1.trans (e2.trans e3)) r3 ((f3.ex e2).ex e1)) fun x rr z => XPost.ex e2 (XPost.ex e1 z)⟩
    · exact q2.elim
  · exact q.elim
theorem de_meth {cl m : Str} {mm : List D → Out D} {dd : List D} {fo : F} {fs : Env → Out (List D)} {pl : Sem Bool} (hk : X.K = cm.K) (hC : CmOk cm) (hok : cm.ok cl) (M : MethOk X.prog X.w X.K X.mg X.base cm cl m k ps dd (spP cm n mm)) (hr : RoomG k X.A) (hx : PassG X E) (ho : DE X cm E false o fo) (ha : DA X cm E false (e :: es) fs)
    (hst : starEach (e :: es) X.env = (false, eval e X.env) :: starEach es X.env := by rfl) (hpl : (backTo pos (starEach es X.env)).any (·.1) = false := by rfl)
    (ht : eval (.Call (.Attribute o m apos) (e :: es) [] pos) X.env = (do
      let ov ← eval o X.env
      standAt apos.atName
      let (f, first) ← holding [ov] (getMethod ov m pl)
      callWith pos f first (backTo pos (starEach (e :: es) X.env)) (backToKw pos (keywordEach [] X.env))) := by rfl) : DE X cm E true (.Call (.Attribute o m apos) (e :: es) [] pos) (cMt cl m n mm dd fo fs) := by
  obtain ⟨to, h1, h2⟩ := ho.ex
  obtain ⟨ta, h3, h4⟩ := ha.ex
  obtain ⟨f, fd, dvs, ds, F, Mt, hb, hv, hdd⟩ := M.ex
  exact ⟨_, pe_methG h1 (by rw [hk]; exact (hC _ hok).cl) Mt F hr hb hv hx h3 hst hpl ht, meth_con hdd h2 h4⟩
theorem acon_nil : ACon cm E false tNil aNil := by
  exact fun W H σ r w fr Q hp => hp [] H [] (Ex.refl H) .nil FpN.nil
theorem de_meth0 {cl m : Str} {mm : List D → Out D} {dd : List D} {fo : F} {pl : Sem Bool} (hk : X.K = cm.K) (hC : CmOk cm) (hok : cm.ok cl) (M : MethOk X.prog X.w X.K X.mg X.base cm cl m k ps dd (spP cm n mm)) (hr : RoomG k X.A) (hx : PassG X E) (ho : DE X cm E false o fo)
    (ht : eval (.Call (.Attribute o m apos) [] [] pos) X.env = (do
      let ov ← eval o X.env
      standAt apos.atName
      let (f, first) ← holding [ov] (getMethod ov m pl)
      callWith pos f first (backTo pos (starEach [] X.env)) (backToKw pos (keywordEach [] X.env))) := by rfl) : DE X cm E true (.Call (.Attribute o m apos) [] [] pos) (cMt cl m n mm dd fo aNil) := by
  obtain ⟨to, h1, h2⟩ := ho.ex
  obtain ⟨f, fd, dvs, ds, F, Mt, hb, hv, hdd⟩ := M.ex
  exact ⟨_, pe_meth0G h1 (by rw [hk]; exact (hC _ hok).cl) Mt F hr hb hv hx ht, meth_con hdd h2 acon_nil⟩

/-! ### making an object -/
def mkO (c : Str) (n : Nat) (mm : List D → Out (D × D)) (dd ds : List D) : Out D := if (ds ++ dd).length + 1 = n then (match mm (.obj true c [] [] :: (ds ++ dd)) with
  | .ok (.non, d) => .ok d
  | .exn x _ => .exn x []
  | _ => .bad) else .bad
structure MakeOk (P : Program) (w : World) (K : PySem.W.Frag) (mg : Str → Option Value) (base : Heap) (cm : Cm) (c : Str) (k : Nat) (ps : List Str) (dd : List D) (sp : Sp) : Prop where
  ex : ∃ f fd dvs ds, FnG P w K mg base k f fd ps sp ∧ Mk K (cm.cl c) f ∧ mg c = some (.ref (cm.cl c)) ∧ Binds K fd ps ds ∧ Vals dvs ds ∧ ∀ W H, Reps cm W H dvs dd []
theorem make_run {cl : Str} {mm : List D → Out (D × D)} {dd ds : List D} {dvs vs : List V} {W : Addr → Prop} {H : Hp} {Q : VK} {E : XK} (hok : cm.ok cl) (hdd : ∀ W H, Reps cm W H dvs dd []) (w : WOk cm W H) (rp : Reps cm W H vs ds []) (hp : Post (mkO cl n mm dd ds) (QP cm W true H Q) (XPost cm E W H)) :
    ∀ x dx, H x = none → H dx = none → dx ≠ x → spX cm n mm (.ref x :: (vs ++ dvs)) (upd (upd H dx (.own x)) x (.ins (cm.cl cl) dx [])) (fun v H2 => v = .non ∧ Q (.ref x) H2) E := by
  intro x dx hx hdx hne
  have e1 : Ex H (upd (upd H dx (.own x)) x (.ins (cm.cl cl) dx [])) := (Ex.new hdx).trans (Ex.new (by rw [upd_ne (Ne.symm hne)]; exact hx))
  have hnW : ¬ W x := w.fresh hx
  unfold mkO at hp
  split at hp
  · rename_i hl
    refine ⟨W, .ref x, .obj true cl [] [], [x], vs ++ dvs, ds ++ dd, rfl, ⟨fun a z => ?_, e1.tb w.2⟩, List.nodup_cons.mpr ⟨List.not_mem_nil, List.nodup_nil⟩, fun a m => ?_, .objO (vs := []) (fp := []) upd_same ⟨rfl, hok⟩ .nil, Reps.app (fp := []) (rp.move (fun a z => ?_) fun a o q t _ => e1.get a o q t) (hdd _ _), hl, ?_⟩
    · rcases z with z | z
      · exact (w.1 a z).ex e1
      · rw [List.mem_singleton.mp z]; exact ⟨_, upd_same, rfl⟩
    · rw [List.mem_singleton.mp m]; exact hnW
    · rcases z with z | z
      · exact .inl z
      · rw [List.mem_singleton.mp z]; exact .inr hx
    · have hex : ∀ {H' : Hp} {fp' fpv : List Addr}, Fram (upd (upd H dx (.own x)) x (.ins (cm.cl cl) dx [])) (fps0 [x]) H' (fps0 fp') fpv → Ex H H' := fun fm => ⟨fun a o q t => fm.keep a o (e1.get a o q t) (t := t) (fun i m => by
        by_cases hi : i = 0
        · subst hi
          rw [List.mem_singleton.mp (show a ∈ [x] from m)] at q
          rw [q] at hx; cases hx
        · rw [show fps0 [x] i = [] from if_neg hi] at m; cases m), fun a q => e1.back (fm.back a q), fun h => fm.tb (e1.tb h)⟩
      split at hp
      · rename_i d hd
        rw [hd]
        intro v H' fp' fpv r0 rv nd nw fm
        cases rv
        refine ⟨rfl, hp (.ref x) H' fp' (hex fm) (by rw [List.append_nil] at r0; exact r0) ⟨by rw [List.append_nil] at nd; exact nd, fun a m => ?_⟩⟩
        rcases fm.old 0 a m with ⟨j, m⟩ | z
        · by_cases hj : j = 0
          · subst hj; rw [List.mem_singleton.mp (show a ∈ [x] from m)]; exact hx
          · rw [show fps0 [x] j = [] from if_neg hj] at m; cases m
        · exact e1.back z
      · rename_i y r' hd
        rw [hd]
        exact fun d1 H' fp' dx' _ _ _ _ fm xr => hp H' dx' (hex fm) (xr.weak fun a z => .inl z)
      · exact hp.elim
  · exact hp.elim
theorem de_make {cl : Str} {mm : List D → Out (D × D)} {dd : List D} {fs : Env → Out (List D)} (hok : cm.ok cl) (M : MakeOk X.prog X.w X.K X.mg X.base cm cl k ps dd (spX cm n mm)) (hr : RoomG (k + 1) X.A) (hx : PassG X E) (ha : DA X cm E false (e :: es) fs) (hg : Gl X cl := by rfl) (hdb : (cl == ("__debug__" : Str)) = false := by decide)
    (he : starEach (e :: es) X.env = (false, eval e X.env) :: starEach es X.env := by rfl) (hpl : (backTo pos (starEach es X.env)).any (·.1) = false := by rfl) : DE X cm E true (.Call (.Name cl p) (e :: es) [] pos) (cA (mkO cl n mm dd) fs) := by
  obtain ⟨ta, h1, h2⟩ := ha.ex
  obtain ⟨f, fd, dvs, ds, F, Mk, hm, hb, hv, hdd⟩ := M.ex
  refine ⟨_, pe_makeG Mk F hr hg hm hb hv hx h1 hdb he hpl, fun W H σ env w fr Q hp => h2 W H σ env w fr _ (hp.bind.mono (fun ds q vs H1 fp e1 r1 f1 => ?_) fun _ _ z => z)⟩
  cases (show fp = [] from f1)
  exact make_run hok hdd (w.ex e1) r1.ofP (q.mono (fun d q3 z H3 fp3 e3 r3 f3 => q3 z H3 fp3 (e1.trans e3) r3 (f3.ex e1)) fun x rr z => XPost.ex e1 z)
/-- arguments with effects, a value of one's own back -/
theorem xc_con {m : List D → Out D} {fs : Env → Out (List D × Env)} {ta : TA} {R : L2.St → VK → List V → Hp → Prop} (h2 : ∀ W0 H σ r fps, Good cm W0 H σ r fps → ∀ Q, Post (fs r) (QXA cm W0 H σ fps Q) (XX cm E W0 H σ fps) → ta σ H Q)
    (hR : ∀ σ Q vs H1 W ds, WOk cm W H1 → Reps cm W H1 vs ds [] → Post (m ds) (QP cm W true H1 Q) (XPost cm (E σ) W H1) → R σ Q vs H1) :
    ∀ W0 H σ r fps, Good cm W0 H σ r fps → ∀ Q, Post (xC m fs r) (QX cm W0 H σ fps Q) (XX cm E W0 H σ fps) → ta σ H (R σ Q) := by
  intro W0 H σ r fps g Q hp
  refine h2 W0 H σ r fps g _ (hp.bind.mono (fun p q vs H1 f1 p1 g1 k1 n1 w1 m1 => ?_) fun _ _ z => z)
  have ko := k1.open g1 w1 fun _ m => m
  split at q
  · rename_i d hd
    refine hR _ _ _ _ (Wof W0 f1) (frzs p.1) g1.drop.wof ko ?_
    rw [hd]
    intro v H2 fpv e2 rp fn
    have hm' : ∀ a ∈ fpv, MutAt H2 a := fun a m => rp.own a m
    refine q v H2 f1 fpv (g1.drop.addv e2 fn.2 hm') (rp.move (fun a z => .inl ?_) fun _ _ q _ _ => q) fn.1 (fun a m z => (g1.w0.1 a (.inl z)).there (fn.2 a m)) ((m1.trans (Fram.of_ex e2 fn.2)).addv fun a m => .inr (m1.back a (fn.2 a m)))
    rcases z with (z | z) | z
    · exact .inl (.inl z)
    · exact .inr z
    · exact .inl (.inr z)
  · rename_i x' r' hd
    refine hR _ _ _ _ (Wof W0 f1) (frzs p.1) g1.drop.wof ko ?_
    rw [hd]
    exact fun H' dx e2 xr => q H' f1 dx (g1.drop.ex e2) ((m1.trans (Fram.of_ex (fpv := []) e2 fun _ m => (nomatch m))).addv fun _ m => (nomatch m)) xr
  · exact q.elim
theorem xe_make {cl : Str} {mm : List D → Out (D × D)} {dd : List D} {fs : Env → Out (List D × Env)} (hok : cm.ok cl) (M : MakeOk X.prog X.w X.K X.mg X.base cm cl k ps dd (spX cm n mm)) (hr : RoomG (k + 1) X.A) (hx : PassG X E) (ha : XA X cm E (e :: es) fs) (hg : Gl X cl := by rfl) (hdb : (cl == ("__debug__" : Str)) = false := by decide)
    (he : starEach (e :: es) X.env = (false, eval e X.env) :: starEach es X.env := by rfl) (hpl : (backTo pos (starEach es X.env)).any (·.1) = false := by rfl) : XE X cm E (.Call (.Name cl p) (e :: es) [] pos) (xC (mkO cl n mm dd) fs) := by
  obtain ⟨ta, h1, h2⟩ := ha.ex
  obtain ⟨f, fd, dvs, ds, F, Mk, hm, hb, hv, hdd⟩ := M.ex
  refine ⟨_, pe_makeG Mk F hr hg hm hb hv hx h1 hdb he hpl, xc_con h2 fun σ Q vs H1 W ds w rp q => make_run hok hdd w rp q⟩
end
end DL

namespace DL
variable [Tbs]
open PySem L2
section
variable {X : Cx} {cm : Cm} {E : XS} {b : Bool} {pos p apos : Pos} {ks : Nat → Bool} {a c e o : Expr} {es : List Expr} {x : Str} {k n : Nat} {ps : List Str} {fa : F}
/-- behind arguments with effects: a function over data tells a value of one's own -/
theorem xc_fin {W0 : Addr → Prop} {H H1 : Hp} {σ : St} {fps f1 : Fps} {p1 : List Addr} {vs : List V} {ds : List D} {r1 : Env} {Q : VK} {o : Out D} (g1 : Good cm (Wp W0 p1) H1 σ r1 f1) (k1 : Reps cm (Wof (Wp W0 p1) f1) H1 vs ds p1) (w1 : ∀ a ∈ p1, ¬ W0 a) (m1 : Fram H fps H1 f1 p1)
    (q : Post (match o with | .ok d => .ok (d, r1) | .exn x _ => .exn x r1 | .bad => .bad : Out (D × Env)) (QX cm W0 H σ fps Q) (XX cm E W0 H σ fps)) :
    Reps cm (Wof W0 f1) H1 vs (frzs ds) [] ∧ WOk cm (Wof W0 f1) H1 ∧ Post o (QP cm (Wof W0 f1) true H1 Q) (XPost cm (E σ) (Wof W0 f1) H1) := by
  refine ⟨k1.open g1 w1 fun _ m => m, g1.drop.wof, ?_⟩
  cases o with
  | ok d =>
    intro v H2 fpv e2 rp fn
    have hm' : ∀ a ∈ fpv, MutAt H2 a := fun a m => rp.own a m
    refine q v H2 f1 fpv (g1.drop.addv e2 fn.2 hm') (rp.move (fun a z => .inl ?_) fun _ _ q _ _ => q) fn.1 (fun a m z => (g1.w0.1 a (.inl z)).there (fn.2 a m)) ((m1.trans (Fram.of_ex e2 fn.2)).addv fun a m => .inr (m1.back a (fn.2 a m)))
    rcases z with (z | z) | z
    · exact .inl (.inl z)
    · exact .inr z
    · exact .inl (.inr z)
  | exn x' r' => exact fun H' dx e2 xr => q H' f1 dx (g1.drop.ex e2) ((m1.trans (Fram.of_ex (fpv := []) e2 fun _ m => (nomatch m))).addv fun _ m => (nomatch m)) xr
  | bad => exact q.elim
def xMt (c m : Str) (n : Nat) (mm : List D → Out D) (dd : List D) (f : FX) (h : Env → Out (List D × Env)) : FX := fun r => (f r).bind fun p => if isOb c m p.1 = true then (h p.2).bind fun q => (match chk n mm (frz p.1 :: (frzs q.1 ++ dd)) with
  | .ok d => .ok (d, q.2)
  | .exn x _ => .exn x q.2
  | .bad => .bad) else .bad
theorem Rep.isObF {W : Addr → Prop} {H : Hp} {v : V} {d : D} {fp : List Addr} {c m : Str} (r : Rep cm W H v d fp) (h : DL.isOb c m d = true) : ∃ p dx fs, v = .ref p ∧ H p = some (.ins (cm.cl c) dx fs) ∧ fs.lookup m = none := (r.isOb h).2
theorem xe_meth {cl m : Str} {mm : List D → Out D} {dd : List D} {fo : FX} {fs : Env → Out (List D × Env)} {pl : Sem Bool} (hk : X.K = cm.K) (hC : CmOk cm) (hok : cm.ok cl) (M : MethOk X.prog X.w X.K X.mg X.base cm cl m k ps dd (spP cm n mm)) (hr : RoomG k X.A) (hx : PassG X E) (ho : XE X cm E o fo) (ha : XA X cm E (e :: es) fs)
    (hst : starEach (e :: es) X.env = (false, eval e X.env) :: starEach es X.env := by rfl) (hpl : (backTo pos (starEach es X.env)).any (·.1) = false := by rfl)
    (ht : eval (.Call (.Attribute o m apos) (e :: es) [] pos) X.env = (do
      let ov ← eval o X.env
      standAt apos.atName
      let (f, first) ← holding [ov] (getMethod ov m pl)
      callWith pos f first (backTo pos (starEach (e :: es) X.env)) (backToKw pos (keywordEach [] X.env))) := by rfl) : XE X cm E (.Call (.Attribute o m apos) (e :: es) [] pos) (xMt cl m n mm dd fo fs) := by
  obtain ⟨ta, a1, a2⟩ := ho.ex
  obtain ⟨tb, b1, b2⟩ := ha.ex
  obtain ⟨f, fd, dvs, ds, F, Mt, hb, hv, hdd⟩ := M.ex
  refine ⟨_, pe_methG a1 (by rw [hk]; exact (hC _ hok).cl) Mt F hr hb hv hx b1 hst hpl ht, fun W0 H σ r fps g Q hp => a2 W0 H σ r fps g _ (hp.bind.mono (fun p q v H1 f1 p1 g1 k1 n1 w1 m1 => ?_) fun _ _ z => z)⟩
  split at q
  · rename_i hob
    obtain ⟨pa, dx, fs', rfl, hpa, hl⟩ := k1.isObF hob
    refine ⟨pa, dx, fs', rfl, hpa, hl, b2 (Wp W0 p1) H1 σ p.2 f1 g1 _ (q.bind.mono (fun p' q' vs H2 f2 p2 g2 k2 n2 w2 m2 => ?_) fun x rr z => XX.later m1 z)⟩
    obtain ⟨z1, z2, z3, z4, z5⟩ := two g1 k1 n1 w1 m1 g2 k2 n2 w2 m2
    obtain ⟨y1, y2, y3⟩ := xc_fin (ds := p.1 :: p'.1) z1 z2 z4 z5 q'
    unfold chk at y3
    split at y3
    · rename_i hlen
      exact ⟨Wof W0 f2, frz p.1 :: (frzs p'.1 ++ dd), y2, Reps.app y1 (hdd _ _), hlen, y3⟩
    · exact y3.elim
  · exact q.elim
/-! ### a node in a slot, changed -/
theorem Good.mutO {W0 : Addr → Prop} {H : Hp} {σ : St} {r : Env} {fps : Fps} {i : Nat} {pa : Addr} {vs' : List V} {ds' : List D} {d' : D} {o : HO} {fp' fpv : List Addr} (g : Good cm (Wp W0 fpv) H σ r fps) (hv : σ[i]? = some (some (.ref pa))) (ho : isM o = true) (hmk : ∀ W' H', H' pa = some o → Reps cm W' H' vs' ds' fp' → Rep cm W' H' (.ref pa) d' (pa :: fp')) (hpa : pa ∈ fps i) (hrp : Reps cm (Wof (Wp W0 fpv) fps) H vs' ds' fp') (hsub : ∀ a ∈ fp', a ∈ fps i ∨ a ∈ fpv) (hnp : pa ∉ fp') (nd : fp'.Nodup) (nw : ∀ a ∈ fpv, ¬ W0 a) :
    Good cm W0 (upd H pa o) σ (r.set i (some d')) (fun j => if j = i then pa :: fp' else fps j) := by
  have sub : ∀ {j a}, a ∈ (if j = i then pa :: fp' else fps j) → (j = i ∧ (a = pa ∨ a ∈ fp')) ∨ (j ≠ i ∧ a ∈ fps j) := fun {j a} m => by
    split at m
    · exact .inl ⟨by assumption, List.mem_cons.mp m⟩
    · exact .inr ⟨by assumption, m⟩
  have own : ∀ {j a}, a ∈ (if j = i then pa :: fp' else fps j) → Wof (Wp W0 fpv) fps a := fun {j a} m => by
    rcases sub m with ⟨_, rfl | m⟩ | ⟨_, m⟩
    · exact .inr ⟨i, hpa⟩
    · exact (hsub a m).elim (fun m => .inr ⟨i, m⟩) fun m => .inl (.inr m)
    · exact .inr ⟨j, m⟩
  have wsub : ∀ a, Wof W0 (fun j => if j = i then pa :: fp' else fps j) a → Wof (Wp W0 fpv) fps a := fun a z => by
    rcases z with z | ⟨j, m⟩
    · exact .inl (.inl z)
    · exact own m
  have mut' : ∀ a, MutAt H a → MutAt (upd H pa o) a := fun a ⟨o', h1, h2⟩ => by
    by_cases e : a = pa
    · subst e; exact ⟨_, upd_same, ho⟩
    · exact ⟨o', by rw [upd_ne e]; exact h1, h2⟩
  have nother : ∀ j a, j ≠ i → a ∈ fps j → a ≠ pa ∧ a ∉ fp' := fun j a hj m => ⟨fun z => hj (g.dj j i a m (z ▸ hpa)), fun z => (hsub a z).elim (fun z => hj (g.dj j i a m z)) fun z => g.nw j a m (.inr z)⟩
  refine ⟨by rw [List.length_set]; exact g.len, ⟨fun a z => mut' a (g.w0.1 a (.inl z)), Tabs.updM g.w0.2 (g.mu i pa hpa)⟩, fun j d hj => ?_, fun j => ?_, fun j j' a m m' => ?_, fun j a m z => ?_, fun j a m => ?_⟩
  · rw [List.getElem?_set] at hj
    by_cases e : i = j
    · subst e
      rw [if_pos rfl] at hj
      split at hj
      · cases hj
        rw [if_pos rfl]
        refine ⟨_, hv, hmk _ _ upd_same (hrp.move (fun a z => .inl (wsub a z)) fun a o q _ cc => ?_)⟩
        rw [upd_ne]
        · exact q
        · rcases cc with cc | cc
          · exact fun z => cc (.inr ⟨i, z ▸ hpa⟩)
          · exact fun z => hnp (z ▸ cc)
      · cases hj
    · rw [if_neg e] at hj
      rw [if_neg (Ne.symm e)]
      obtain ⟨u, e1, e2⟩ := g.sl j d hj
      refine ⟨u, e1, e2.move (fun a z => .inl (wsub a z)) fun a o q _ cc => ?_⟩
      rw [upd_ne]
      · exact q
      · rcases cc with cc | cc
        · exact fun z => cc (.inr ⟨i, z ▸ hpa⟩)
        · exact (nother j a (Ne.symm e) cc).1
  · split
    · exact List.nodup_cons.mpr ⟨hnp, nd⟩
    · exact g.nd j
  · rcases sub m with ⟨e, m⟩ | ⟨e, m⟩ <;> rcases sub m' with ⟨e', m'⟩ | ⟨e', m'⟩
    · rw [e, e']
    · rcases m with m | m
      · exact absurd m (nother j' a e' m').1
      · exact absurd m (nother j' a e' m').2
    · rcases m' with m' | m'
      · exact absurd m' (nother j a e m).1
      · exact absurd m' (nother j a e m).2
    · exact g.dj j j' a m m'
  · rcases sub m with ⟨_, rfl | m⟩ | ⟨_, m⟩
    · exact g.nw i _ hpa (.inl z)
    · exact (hsub a m).elim (fun m => g.nw i a m (.inl z)) fun m => nw a m z
    · exact g.nw j a m (.inl z)
  · exact mut' a (g.wof.1 a (own m))
/-! ### x.f = e, x in slot i -/
def putN (f : Str) : List Str → List Str
  | [] => [f]
  | g :: gs => if g = f then g :: gs else g :: putN f gs
def putX {α : Type} (f : Str) (x : α) : List Str → List α → List α
  | [], _ => [x]
  | _ :: _, [] => []
  | g :: gs, y :: ys => if g = f then x :: ys else y :: putX f x gs ys
theorem putF_zip (f : Str) (v : V) : ∀ (fs : List Str) (vs : List V), fs.length = vs.length → putF f v (fs.zip vs) = (putN f fs).zip (putX f v fs vs) ∧ (putN f fs).length = (putX f v fs vs).length
  | [], vs, h => ⟨rfl, rfl⟩
  | g :: gs, [], h => nomatch h
  | g :: gs, u :: us, h => by
    obtain ⟨h1, h2⟩ := putF_zip f v gs us (by simpa using h)
    rw [List.zip_cons_cons]
    show (if g = f then (g, v) :: gs.zip us else (g, u) :: putF f v (gs.zip us)) = _ ∧ _
    unfold putN putX
    by_cases e : g = f
    · rw [if_pos e, if_pos e, if_pos e]; exact ⟨rfl, by simpa using h⟩
    · rw [if_neg e, if_neg e, if_neg e, h1]; exact ⟨rfl, by simp [h2]⟩
theorem Reps.putX {W : Addr → Prop} {H : Hp} {f : Str} {v : V} {d : D} {fv : List Addr} (rv : Rep cm W H v d fv) : ∀ {fs : List Str} {vs : List V} {ds : List D} {fp : List Addr}, Reps cm W H vs ds fp → fs.length = vs.length → ∃ fp', Reps cm W H (DL.putX f v fs vs) (DL.putX f d fs ds) fp' ∧ (∀ a ∈ fp', a ∈ fp ∨ a ∈ fv) ∧ (fp.Nodup → fv.Nodup → (∀ a ∈ fp, a ∉ fv) → fp'.Nodup)
  | [], _, _, _, .nil, _ => ⟨fv ++ [], .cons rv .nil, fun a m => .inr (by simpa using m), fun _ h _ => by simpa using h⟩
  | [], _, _, _, .cons _ _, h => nomatch h
  | _ :: _, _, _, _, .nil, h => nomatch h
  | g :: gs, _, _, _, .cons (fp := f1) (fps := f2) h0 r0, h => by
    unfold DL.putX
    by_cases e : g = f
    · rw [if_pos e, if_pos e]
      refine ⟨fv ++ f2, .cons rv r0, fun a m => (List.mem_append.mp m).elim .inr fun m => .inl (List.mem_append_right _ m), fun h1 h2 h3 => List.nodup_append.mpr ⟨h2, (List.nodup_append.mp h1).2.1, fun a m b m' z => h3 b (List.mem_append_right _ m') (z ▸ m)⟩⟩
    · rw [if_neg e, if_neg e]
      obtain ⟨fp', h1, h2, h3⟩ := Reps.putX rv r0 (fs := gs) (by simpa using h)
      refine ⟨f1 ++ fp', .cons h0 h1, fun a m => (List.mem_append.mp m).elim (fun m => .inl (List.mem_append_left _ m)) fun m => (h2 a m).imp (List.mem_append_right _) id, fun k1 k2 k3 => ?_⟩
      have k4 := List.nodup_append.mp k1
      refine List.nodup_append.mpr ⟨k4.1, h3 k4.2.1 k2 fun a m => k3 a (List.mem_append_right _ m), fun a m b m' z => ?_⟩
      subst z
      rcases h2 a m' with m' | m'
      · exact k4.2.2 a m a m' rfl
      · exact k3 a (List.mem_append_left _ m) m'
def sFldS (i : Nat) (c f : Str) (fx : FX) : FS := fun r => match fx r with
  | .ok p => match p.2[i]? with
    | some (some (.obj true c' fs xs)) => if c' = c ∧ fs.length < 1000 then .nx (p.2.set i (some (.obj true c' (putN f fs) (putX f p.1 fs xs)))) else .bad
    | _ => .bad
  | .exn x r' => .exn x r'
  | .bad => .bad
theorem Rep.objOf {W : Addr → Prop} {H : Hp} {v : V} {c : Str} {fs : List Str} {ds : List D} {fp : List Addr} (h : Rep cm W H v (.obj true c fs ds) fp) : cm.ok c ∧ ∃ pa dx vs fp', v = .ref pa ∧ H pa = some (.ins (cm.cl c) dx (fs.zip vs)) ∧ fs.length = vs.length ∧ fp = pa :: fp' ∧ Reps cm W H vs ds fp' := by
  cases h with
  | objO h l r => exact ⟨l.2, _, _, _, _, rfl, h, l.1, rfl, r⟩
theorem ds_fld (i : Nat) {cl f : Str} {fx : FX} {tpos : Pos} (hk : X.K = cm.K) (hC : CmOk cm) (hn : NoAttr X.K (cm.cl cl) f) (hv : PE X o (tVar i)) (h1 : XE X cm E e fx) (hs : swapsWith e (some (.Attribute o f tpos)) pos.line X.env = pure false := by rfl) : DS X cm E ks (.Assign [.Attribute o f tpos] e pos) (sFldS i cl f fx) := by
  obtain ⟨te, a1, a2⟩ := h1.ex
  refine ⟨_, ps_fld hv a1 hs, fun W0 H σ r fps gd D hp => a2 W0 H σ r fps gd _ ?_⟩
  unfold sFldS at hp
  split at hp
  · rename_i pp hr
    rw [hr]
    intro v H1 f1 p1 g1 k1 n1 w1 m1
    split at hp
    · rename_i c' fs xs hd
      split at hp
      · rename_i hc
        obtain ⟨hcc, hfl⟩ := hc
        subst hcc
        obtain ⟨v0, q1, q2⟩ := g1.sl i _ hd
        obtain ⟨hok, pa, dx, vs, fp, rfl, hpa, hlen, hfp, hrr⟩ := q2.objOf
        refine ⟨_, q1, pa, _, dx, _, rfl, hpa, by rw [hk]; exact (hC _ hok).cl, hn, by rw [List.length_zip, hlen, Nat.min_self, ← hlen]; exact hfl, ?_⟩
        obtain ⟨e1, e2⟩ := putF_zip f v fs vs hlen
        rw [e1]
        obtain ⟨fp', s1, s2, s3⟩ := Reps.putX (f := f) k1 hrr hlen
        have hmem : pa ∈ f1 i := by rw [hfp]; exact List.mem_cons_self ..
        have nd1 := g1.nd i
        rw [hfp] at nd1
        have nd2 := List.nodup_cons.mp nd1
        have hdj : ∀ a ∈ fp, a ∉ p1 := fun a m z => g1.nw i a (by rw [hfp]; exact List.mem_cons_of_mem _ m) (.inr z)
        have hsub : ∀ a ∈ fp', a ∈ f1 i ∨ a ∈ p1 := fun a m => (s2 a m).imp (fun m => by rw [hfp]; exact List.mem_cons_of_mem _ m) id
        have hnp : pa ∉ fp' := fun m => (s2 pa m).elim nd2.1 fun m => g1.nw i pa hmem (.inr m)
        have g3 := g1.mutO (d' := .obj true c' (putN f fs) (putX f pp.1 fs xs)) (o := .ins (cm.cl c') dx ((putN f fs).zip (putX f v fs vs))) q1 rfl (fun W' H' h r => .objO h ⟨e2, hok⟩ r) hmem s1 hsub hnp (s3 nd2.2 n1 hdj) w1
        exact hp σ _ _ g3 (m1.mut hmem ⟨_, hpa, rfl⟩ hsub) (Keep.refl ks σ)
      · exact hp.elim
    · exact hp.elim
  · rename_i x r' hr
    rw [hr]
    exact fun H1 fps' dx g1 fm xr => hp σ H1 fps' dx g1 fm (Keep.refl ks σ) xr
  · exact hp.elim
/-! ### x.m(..), x in slot i, changed by it -/
def xMIO (i : Nat) (c m : Str) (n : Nat) (mm : List D → Out (D × D)) (h : Env → Out (List D × Env)) : FX := fun r => match r[i]? with
  | some (some d) => if isOb c m d = true then xIO i n mm h r else .bad
  | _ => .bad
theorem xe_mio (i : Nat) {cl m : Str} {mm : List D → Out (D × D)} {fs : Env → Out (List D × Env)} {pl : Sem Bool} (hk : X.K = cm.K) (hC : CmOk cm) (hok : cm.ok cl) (M : MethOk X.prog X.w X.K X.mg X.base cm cl m k ps [] (spX cm n mm)) (hr : RoomG k X.A) (hx : PassG X E) (hv : PE X o (tVar i)) (ha : XA X cm E (e :: es) fs)
    (hst : starEach (e :: es) X.env = (false, eval e X.env) :: starEach es X.env := by rfl) (hpl : (backTo pos (starEach es X.env)).any (·.1) = false := by rfl)
    (ht : eval (.Call (.Attribute o m apos) (e :: es) [] pos) X.env = (do
      let ov ← eval o X.env
      standAt apos.atName
      let (f, first) ← holding [ov] (getMethod ov m pl)
      callWith pos f first (backTo pos (starEach (e :: es) X.env)) (backToKw pos (keywordEach [] X.env))) := by rfl) : XE X cm E (.Call (.Attribute o m apos) (e :: es) [] pos) (xMIO i cl m n mm fs) := by
  obtain ⟨ta, h1, h2⟩ := ha.ex
  obtain ⟨f, fd, dvs, ds, F, Mt, hb, hvl, hdd⟩ := M.ex
  refine ⟨_, pe_methG hv (by rw [hk]; exact (hC _ hok).cl) Mt F hr hb hvl hx h1 hst hpl ht, fun W0 H σ r fps g Q hp => ?_⟩
  unfold xMIO at hp
  split at hp
  · rename_i d hd
    split at hp
    · rename_i hob
      obtain ⟨v0, q1, q2⟩ := io_con h2 W0 H σ r fps g Q hp
      obtain ⟨v1, e1, e2⟩ := g.sl i d hd
      rw [q1] at e1
      cases e1
      obtain ⟨pa, dx, fs', rfl, hpa, hl⟩ := e2.isObF hob
      refine ⟨_, q1, pa, dx, fs', rfl, hpa, hl, ?_⟩
      have hn : dvs = [] := by
        have := (hdd (fun _ => False) (fun _ => none)).len
        exact List.length_eq_zero_iff.mp this
      subst hn
      simp only [List.append_nil]
      exact q2
    · exact hp.elim
  · exact hp.elim
end
end DL

namespace DL
variable [Tbs]
open PySem L2
theorem RoomG.in1 {k : Nat} {A : Around} (r : RoomG (k + 1) A) : RoomG k A.in1 := ⟨r.rm.in1, r.gd⟩
/-- a def runs somewhere below -/
theorem run_fnA {X : Cx} {k : Nat} {f : Addr} {fd : FuncData} {ps : List Str} {sp : Sp} {E : XS} {pins : List (Addr × Obj)} {σ : St} {H : Hp} {s : Shared} {Q : VK} {us : List Value} {vs : List V} {A : Around} (F : FnG X.prog X.w X.K X.mg X.base k f fd ps sp) (hr : RoomG k A) (hA : A.frames = X.A.frames) (hb : Binds X.K fd ps []) (hx : PassG X E)
    (I : Inv X pins σ H s) (r : Vals vs us) (h : sp vs H Q (E σ)) : wpAny (model X.prog X.w) A (call (.ref f) us) (EP X pins σ Q) X.xe s := by
  have hl : us.length = ps.length := r.length.symm.trans (F.len _ _ _ _ h)
  have e0 : Env0 X.prog X.w X.K X.mg X.base A X.stack s H := by
    have e := I.env0
    exact ⟨by rw [hA]; exact e.frames, e.mod, e.bs, e.bsz, e.funs, e.frf, e.hok, e.bare⟩
  apply wpAny_call
  apply codeAny_mono (F.go A X.stack s H ⟨us, []⟩ us vs Q (E σ) hr e0 (by
    have := hb s us I.kIn (by simpa using hl)
    simpa using this) r h)
  intro res s' hq
  match res, hq with
  | .error e, hq => exact hx σ pins H s e s' I hq
  | .ok (.ret u), hq => exact I.after hq
/-- the reading of a special method of one's own on instances of the class at C: with the arguments xs, telling what T takes -/
def rSpec (cm : Cm) (c : Str) (n : Nat) (mm : List D → Out D) (T : V → Hp → VK → Prop) : List V → Hp → VK → Prop := fun xs H Q => (∀ x ∈ xs, ∃ a dx fs, x = .ref a ∧ H a = some (.ins (cm.cl c) dx fs)) ∧ spP cm n mm xs H (fun v H' => T v H' Q) (fun _ _ _ => False)
/-- what a class must have for its special methods -/
structure SpecOk (P : Program) (w : World) (K : PySem.W.Frag) (mg : Str → Option Value) (base : Heap) (cm : Cm) (c m : Str) (k : Nat) (ps : List Str) (sp : Sp) : Prop where
  ex : ∃ f fd, FnG P w K mg base k f fd ps sp ∧ Meth K (cm.cl c) m f ∧ Binds K fd ps []
section
variable {X : Cx} {cm : Cm} {E : XS} {b : Bool} {pos p : Pos} {k n : Nat} {c m : Str} {ps : List Str} {mm : List D → Out D} {a d e : Expr} {fa fb : F}
theorem MethOk.spec {P : Program} {w : World} {K : PySem.W.Frag} {mg : Str → Option Value} {base : Heap} {sp : Sp} (M : MethOk P w K mg base cm c m k ps [] sp) : SpecOk P w K mg base cm c m k ps sp := by
  obtain ⟨f, fd, dvs, ds, F, Mt, hb, hv, hdd⟩ := M.ex
  have hn : dvs = [] := List.length_eq_zero_iff.mp (hdd (fun _ => False) (fun _ => none)).len
  subst hn
  cases hv
  exact ⟨f, fd, F, Mt, hb⟩
theorem inst_at {pins : List (Addr × Obj)} {σ : St} {H : Hp} {s : Shared} {x C dx : Addr} {fs : List (Str × V)} (I : Inv X pins σ H s) (h : H x = some (.ins C dx fs)) : ∃ od, PySem.W.InstAt s.heap x (PySem.W.instObj C dx) C (some od) := by
  obtain ⟨mA, J, _⟩ := ins_get I.hok h
  obtain ⟨od, J, _⟩ := J.look
  exact ⟨od, J⟩
def isT (neg : Bool) : V → Hp → VK → Prop := fun v H Q => ∃ k, v = .bl k ∧ Q (.bl (k != neg)) H
/-- == by an own __eq__ -/
theorem op_eqO (S : SpecOk X.prog X.w X.K X.mg X.base cm c "__eq__" k ps (spP cm n mm)) (hr : RoomG k X.A) : OpR X (compareOp .Eq) (fun x y H Q => rSpec cm c n mm (isT false) [x, y] H Q) := by
  intro pins s σ H x y v u Q I rx ry h
  obtain ⟨f, fd, F, Mt, hb⟩ := S.ex
  obtain ⟨hi, hs⟩ := h
  obtain ⟨ax, dx, fx, rfl, hx⟩ := hi x (by simp)
  obtain ⟨ay, dy, fy, rfl, hy⟩ := hi y (by simp)
  cases rx
  cases ry
  obtain ⟨od, J⟩ := inst_at I hx
  obtain ⟨od', J'⟩ := inst_at I hy
  obtain ⟨m0, hF⟩ := I.fr
  show wpAny (model X.prog X.w) X.A (richCompare .Eq _ _) (EP X pins σ Q) X.xe s
  refine PySem.W.cmp_K (op := .Eq) (tb := .ref (cm.cl c)) hr.rm.units0 hF I.ok.mod.kin J J'.type (by simp [PySem.W.notFirst]) Mt.at_ Mt.fn ?_
  refine wpAny_mono (run_fnA (E := E0') F hr rfl hb pass_none I (us := [.ref ax, .ref ay]) (vs := [.ref ax, .ref ay]) (.cons rfl (.cons rfl .nil)) hs) (fun r s' z => ?_) fun _ _ z => z
  obtain ⟨w, H', I', rw', k', rfl, q⟩ := z
  cases rw'
  exact ⟨.bl k', H', I', rfl, by simpa using q⟩
theorem builtinNe_K {prog : Program} {w : World} {A : Around} {E : Value → Shared → Prop} {K : PySem.W.Frag} {x y C f : Addr} {od : Option Obj} {ox : Obj} {s : Shared} {Q : Fin → Shared → Prop} (X : K.In s.heap) (I : PySem.W.InstAt s.heap x ox C od) (hs : PySem.W.findIn K (.ref C) "__eq__" = some (some (.ref f))) (hf : PySem.W.isFn K (.ref f) = true) (hu : A.units < cLine)
    (hcall : wpAny (model prog w) A (call (.ref f) [.ref x, .ref y]) (fun v s' => ∃ b, v = .bool b ∧ Q (.done (.ret (.bool (!b)))) s') E s) :
    wpAny (model prog w) A (Builtin.«object.__ne__» ⟨[.ref x, .ref y], []⟩) Q E s := by
  unfold Builtin.«object.__ne__»
  repeat (first
    | with_reducible refine wpAny_cRoomFor hu ?_
    | (refine wpAny_bind (m := callSpecialIfBound? (.ref x) (Str.ofString "__eq__") [.ref y])
        (PySem.W.ifBound_K X I hs hf (wpAny_mono hcall (fun r s' hr => by
          obtain ⟨b, rfl, hq⟩ := hr
          repeat (first | exact hq | exact wpAny_pure hq | exact wpAny_truthy_bool hq | (refine wpAny_bind (m := truthy (.bool _)) (wpAny_truthy_bool ?_)) | wp_step)) fun _ _ e => e)))
    | wp_step)
theorem ne_bind (self : Value) : bindSpecial (.builtin "object.__ne__") self = pure (.builtin "object.__ne__", [self]) :=
  (Slot.of (T := "object") (name := "__ne__") (owner := "object") (n := "__ne__") (by rw [typeLookup_type, builtinLookup_eq_fast]; kernel_rfl) (by decide +kernel) (by decide +kernel) (by decide +kernel)
    (.inl (by decide +kernel)) (by rw [isSubtype_type]; kernel_rfl)).bind self
theorem ne_plain : plainId "object.__ne__" = true := by decide +kernel
theorem ne_K {prog : Program} {w : World} {A : Around} {E : Value → Shared → Prop} {K : PySem.W.Frag} {x y C f : Addr} {od od' : Option Obj} {ox oy : Obj} {s : Shared} {Q : Value → Shared → Prop} (X : K.In s.heap) (I : PySem.W.InstAt s.heap x ox C od) (J : PySem.W.InstAt s.heap y oy C od') (hn : PySem.W.findIn K (.ref C) "__ne__" = some (some (.builtin "object.__ne__"))) (hm : PySem.W.mroIn K C (.type "object") = some true) (hs : PySem.W.findIn K (.ref C) "__eq__" = some (some (.ref f))) (hf : PySem.W.isFn K (.ref f) = true) (hu : A.units < cLine) (hu1 : A.in1.units < cLine)
    (hcall : wpAny (model prog w) A.in1 (call (.ref f) [.ref x, .ref y]) (fun v s' => ∃ b, v = .bool b ∧ Q (.bool (!b)) s') E s) :
    wpAny (model prog w) A (richCompare .NotEq (.ref x) (.ref y)) Q E s := by
  have one : wpAny (model prog w) A (tryCompare (.ref x) "__ne__" (.ref y)) (fun r s' => ∃ v, r = some v ∧ Q v s') E s := by
    unfold tryCompare
    have h1 : wpAny (model prog w) A (call (.builtin "object.__ne__") [.ref x, .ref y]) (fun v s' => ∃ b, v = .bool b ∧ Q (.bool b) s') E s := by
      refine wpAny_call (codeAny_call_builtin ne_plain PySem.F.cmpEntry_ne (PySem.W.check_slot (i := "object.__ne__") (owner := "object") (n := "__ne__") PySem.F.cmpKind_ne PySem.F.cmpSplit_ne (I.type.andThen (PySem.W.looks_mroIn X hm)) (PySem.F.cmpArgs_ne _ _) ?_))
      refine builtinNe_K (A := A.in1) X I hs hf hu1 (wpAny_mono hcall (fun v s' hv => ?_) fun _ _ e => e)
      obtain ⟨b, rfl, hq⟩ := hv
      exact ⟨b, rfl, _, rfl, hq⟩
    simp only [callSpecialIfBound?, bindSpecialIfBound?]
    refine wpAny_bind (wpAny_holding (wpAny_bind (wpAny_bind (wpAny_bind (I.type.here ((PySem.W.looks_findIn X hn).here ?_))))))
    simp only [ne_bind]
    refine wpAny_bind (wpAny_askSetting (wpAny_ite ?_))
    have fin : ∀ {R : Option Value → Shared → Prop}, (∀ b s', Q (.bool b) s' → R (some (.bool b)) s') → wpAny (model prog w) A (call (.builtin "object.__ne__") ([.ref x] ++ [.ref y]) >>= fun v => pure (some v)) R E s := fun hR => wpAny_bind (wpAny_mono h1 (fun v s' h' => wpAny_pure (by
      obtain ⟨b, rfl, hq⟩ := h'
      exact hR b s' hq)) fun _ _ h' => h')
    split
    · exact wpAny_bind (wpAny_pure (wpAny_pure (fin fun b s' hq => wpAny_pure ⟨_, rfl, hq⟩)))
    · exact wpAny_tryCatch (wpAny_bind (wpAny_pure (wpAny_pure (fin fun b s' hq => wpAny_pure ⟨_, rfl, hq⟩))))
  unfold richCompare
  simp only [oneThing_ref]
  refine wpAny_holding (wpAny_bind (wpAny_cRoomFor hu ?_))
  rw [cmpInfo_NotEq]
  refine wpAny_bind (I.type.here (wpAny_bind (J.type.here ?_)))
  rw [show (Value.ref C != Value.ref C) = false from by simp]
  simp only [Bool.false_eq_true, if_false]
  refine wpAny_bind (wpAny_pure ?_)
  simp only [Bool.false_eq_true, if_false]
  refine wpAny_bind (wpAny_mono one (fun r s' z => ?_) fun _ _ e => e)
  obtain ⟨v, rfl, hq⟩ := z
  exact wpAny_pure hq
/-- != by an own __eq__ -/
theorem op_neO (S : SpecOk X.prog X.w X.K X.mg X.base cm c "__eq__" k ps (spP cm n mm)) (hr : RoomG (k + 1) X.A) (hn : PySem.W.findIn X.K (.ref (cm.cl c)) "__ne__" = some (some (.builtin "object.__ne__"))) (hm : PySem.W.mroIn X.K (cm.cl c) (.type "object") = some true) : OpR X (compareOp .NotEq) (fun x y H Q => rSpec cm c n mm (isT true) [x, y] H Q) := by
  intro pins s σ H x y v u Q I rx ry h
  obtain ⟨f, fd, F, Mt, hb⟩ := S.ex
  obtain ⟨hi, hs⟩ := h
  obtain ⟨ax, dx, fx, rfl, hx⟩ := hi x (by simp)
  obtain ⟨ay, dy, fy, rfl, hy⟩ := hi y (by simp)
  cases rx
  cases ry
  obtain ⟨od, J⟩ := inst_at I hx
  obtain ⟨od', J'⟩ := inst_at I hy
  show wpAny (model X.prog X.w) X.A (richCompare .NotEq _ _) (EP X pins σ Q) X.xe s
  refine ne_K I.kIn J J' hn hm Mt.at_ Mt.fn hr.rm.units0 hr.in1.rm.units0 ?_
  refine wpAny_mono (run_fnA (E := E0') F hr.in1 rfl hb pass_none I (us := [.ref ax, .ref ay]) (vs := [.ref ax, .ref ay]) (.cons rfl (.cons rfl .nil)) hs) (fun r s' z => ?_) fun _ _ z => z
  obtain ⟨w, H', I', rw', k', rfl, q⟩ := z
  cases rw'
  exact ⟨k', rfl, .bl (!k'), H', I', rfl, by simpa using q⟩
def gEqO (c : Str) (neg : Bool) (mm : List D → Out D) : D → D → Out D := fun x y => if (isOb c "__eq__" x && isOb c "__eq__" y) = true then (match mm [x, y] with
  | .ok (.bl k) => .ok (.bl (k != neg))
  | _ => .bad) else .bad
theorem noEx_eqO {neg : Bool} : NoEx (gEqO c neg mm) := fun a b x r h => by
  unfold gEqO at h
  split at h
  · split at h <;> cases h
  · cases h
theorem o_eqO {neg : Bool} : Op2' cm b (fun x y H Q => rSpec cm c 2 mm (isT neg) [x, y] H Q) (gEqO c neg mm) := fun W H x y dx dy w rx ry Q hp => by
  unfold gEqO at hp
  split at hp
  · rename_i hob
    rw [Bool.and_eq_true] at hob
    obtain ⟨a1, d1, f1, rfl, h1, _⟩ := rx.isObF hob.1
    obtain ⟨a2, d2, f2, rfl, h2, _⟩ := ry.isObF hob.2
    refine ⟨fun z hz => ?_, W, [dx, dy], w, .cons (fp := []) rx (.cons (fp := []) ry .nil), rfl, ?_⟩
    · simp at hz
      rcases hz with rfl | rfl
      · exact ⟨_, _, _, rfl, h1⟩
      · exact ⟨_, _, _, rfl, h2⟩
    · split at hp
      · rename_i k hk
        rw [hk]
        intro v H' fp e1 r1 f1'
        cases r1
        exact ⟨k, rfl, hp (.bl (k != neg)) H' [] e1 (.bl _) FpN.nil⟩
      · exact hp.elim
  · exact hp.elim
/-- len(x) by an own __len__ -/
def lenT : V → Hp → VK → Prop := fun v H Q => ∃ i : Int, v = .int i ∧ (0 ≤ i ∧ i < 2 ^ 63) ∧ Q (.int i) H
theorem call_lenO (S : SpecOk X.prog X.w X.K X.mg X.base cm c "__len__" k ps (spP cm n mm)) (hr : RoomG (k + 1) X.A) : CallR X (.builtin "len") (fun xs H Q => xs.length = 1 ∧ rSpec cm c n mm lenT xs H Q) := by
  intro pins s σ H xs us Q I rs h
  obtain ⟨f, fd, F, Mt, hb⟩ := S.ex
  obtain ⟨hl, hi, hs⟩ := h
  match xs, hl, rs with
  | [x], _, .cons rx .nil =>
    obtain ⟨ax, dx, fx, rfl, hx⟩ := hi x (by simp)
    cases rx
    obtain ⟨od, J⟩ := inst_at I hx
    obtain ⟨m0, hF⟩ := I.fr
    refine PySem.W.len_K hF I.ok.mod.kin J Mt.at_ Mt.fn ?_
    refine wpAny_mono (run_fnA (E := E0') F hr.in1 rfl hb pass_none I (us := [.ref ax]) (vs := [.ref ax]) (.cons rfl .nil) hs) (fun r s' z => ?_) fun _ _ z => z
    obtain ⟨w, H', I', rw', i, rfl, hi, q⟩ := z
    obtain ⟨t, rfl⟩ := rw'
    exact ⟨hi, .int i, H', I'.tok _, ⟨_, rfl⟩, q⟩
def gLenO (c : Str) (mm : List D → Out D) : D → Out D := fun x => if isOb c "__len__" x = true then (match mm [x] with
  | .ok (.int i) => if 0 ≤ i ∧ i.toNat ≤ 1000000 then .ok (.int i) else .bad
  | _ => .bad) else .bad
theorem ra_lenO : RA cm b (fun xs H Q => xs.length = 1 ∧ rSpec cm c 1 mm lenT xs H Q) (g1 (gLenO c mm)) := fun W H vs ds w rs Q hp => by
  match ds, rs, hp with
  | [], _, hp => exact hp.elim
  | _ :: _ :: _, _, hp => exact hp.elim
  | [d], rs, hp =>
    generalize hf : ([] : List Addr) = fp at rs
    cases rs with
    | cons rx r0 =>
      obtain ⟨rfl, rfl⟩ := app_nil hf
      cases r0
      replace hp : Post (gLenO c mm d) (QP cm W b H Q) noX := hp
      unfold gLenO at hp
      split at hp
      · rename_i hob
        obtain ⟨a1, d1, f1, rfl, h1, _⟩ := rx.isObF hob
        refine ⟨rfl, fun z hz => ?_, W, [d], w, .cons (fp := []) rx .nil, rfl, ?_⟩
        · simp at hz
          exact ⟨_, _, _, hz, h1⟩
        · split at hp
          · rename_i i hi
            rw [hi]
            split at hp
            · rename_i hb
              intro v H' fp e1 r1 f1'
              cases r1
              exact ⟨i, rfl, ⟨hb.1, by omega⟩, hp (.int i) H' [] e1 (.int _) FpN.nil⟩
            · exact hp.elim
          · exact hp.elim
      · exact hp.elim
theorem noEx_lenO : ∀ a x r, gLenO c mm a ≠ .exn x r := fun a x r h => by
  unfold gLenO at h
  split at h
  · split at h
    · split at h <;> cases h
    · cases h
  · cases h
theorem de_lenO {fs : Env → Out (List D)} (S : SpecOk X.prog X.w X.K X.mg X.base cm c "__len__" k ps (spP cm 1 mm)) (hr : RoomG (k + 1) X.A) (hg : Gl X "len") (hm : X.mg "len" = none) (ha : DA X cm E false [e] fs) (he : starEach [e] X.env = (false, eval e X.env) :: starEach [] X.env := by rfl) (hpl : (backTo pos (starEach [] X.env)).any (·.1) = false := by rfl) : DE X cm E b (.Call (.Name "len" p) [e] [] pos) (cA (g1 (gLenO c mm)) fs) :=
  de_blt (call_lenO S hr) ra_lenO (noEx_g1 noEx_lenO) hg hm PySem.boot_len ha (by decide) (by decide) he hpl
end
end DL

namespace DL
variable [Tbs]
open PySem L2
open PyProof.Rows (envOfC)
/-! ### defs ready to be called -/
section
variable {P : Program} {w : World} {K : PySem.W.Frag} {mg : Str → Option Value} {base : Heap} {cm : Cm} {c m x : Str} {k : Nat} {f : Addr} {fd : FuncData} {ps : List Str} {sp : Sp} {dvs : List V} {dd : List D}
theorem mk_meth (F : FnG P w K mg base k f fd ps sp) (M : Meth K (cm.cl c) m f) (hb : Binds K fd ps []) : MethOk P w K mg base cm c m k ps [] sp := ⟨f, fd, [], [], F, M, hb, .nil, fun _ _ => .nil⟩
theorem mk_methD (F : FnG P w K mg base k f fd ps sp) (M : Meth K (cm.cl c) m f) (hb : ∃ ds, Vals dvs ds ∧ Binds K fd ps ds) (hdd : ∀ W H, Reps cm W H dvs dd []) : MethOk P w K mg base cm c m k ps dd sp := by
  obtain ⟨ds, h1, h2⟩ := hb
  exact ⟨f, fd, dvs, ds, F, M, h2, h1, hdd⟩
theorem mk_make (F : FnG P w K mg base k f fd ps sp) (M : Mk K (cm.cl c) f) (hm : mg c = some (.ref (cm.cl c))) (hb : Binds K fd ps []) : MakeOk P w K mg base cm c k ps [] sp := ⟨f, fd, [], [], F, M, hm, hb, .nil, fun _ _ => .nil⟩
theorem mk_makeD (F : FnG P w K mg base k f fd ps sp) (M : Mk K (cm.cl c) f) (hm : mg c = some (.ref (cm.cl c))) (hb : ∃ ds, Vals dvs ds ∧ Binds K fd ps ds) (hdd : ∀ W H, Reps cm W H dvs dd []) : MakeOk P w K mg base cm c k ps dd sp := by
  obtain ⟨ds, h1, h2⟩ := hb
  exact ⟨f, fd, dvs, ds, F, M, hm, h2, h1, hdd⟩
/-- a def that is never called so deep -/
theorem call_bad {n : Nat} (hl : ps.length = n) (hm : mg x = some (.ref f)) (hk : PySem.W.keepIn K (.ref f) = true) (hb : Binds K fd ps []) : CallOk P w K mg base x k ps (spP cm n fun _ => .bad) :=
  ⟨f, fd, ⟨fun vs H Q E ⟨_, _, _, rp, h, _⟩ => by rw [rp.len, h, hl], fun _ _ _ _ _ _ _ _ _ _ _ _ _ ⟨_, _, _, _, _, z⟩ => z.elim⟩, hm, hk, hb⟩
theorem CallOk.mono {j : Nat} (C : CallOk P w K mg base x j ps sp) (h : j ≤ k) : CallOk P w K mg base x k ps sp := by
  obtain ⟨f, fd, h1, h2, h3, h4⟩ := C.ex
  exact ⟨f, fd, h1.mono h, h2, h3, h4⟩
/-- the same def by another name -/
theorem CallOk.alias {y : Str} (C : CallOk P w K mg base x k ps sp) (h : mg y = mg x) : CallOk P w K mg base y k ps sp := by
  obtain ⟨f, fd, h1, h2, h3, h4⟩ := C.ex
  exact ⟨f, fd, h1, h.trans h2, h3, h4⟩
end
section
variable {X : Cx} {cm : Cm} {E : XS} {b : Bool} {pos p apos : Pos} {ks : Nat → Bool} {a c e o : Expr} {es : List Expr} {x : Str} {k n : Nat} {fa fb : F}
/-! ### sum of a list of whole numbers -/
def intsD : List D → Option (List Int)
  | [] => some []
  | .int i :: ds => (intsD ds).map (i :: ·)
  | _ :: _ => none
theorem intsD_reps {W : Addr → Prop} {H : Hp} : ∀ {vs : List V} {ds : List D} {fp : List Addr}, Reps cm W H vs ds fp → ∀ {xs : List Int}, intsD ds = some xs → vs = xs.map V.int
  | _, _, _, .nil, xs, h => by cases h; rfl
  | _, d :: ds, _, .cons hr r, xs, h => by
    cases d <;> first | (cases h; done) | skip
    unfold intsD at h
    obtain ⟨ys, h1, rfl⟩ := Option.map_eq_some_iff.mp h
    cases hr
    rw [intsD_reps r h1]
    rfl
def gSum : D → Out D
  | .lst _ xs => match intsD xs with
    | some ns => .ok (.int ns.sum)
    | none => .bad
  | _ => .bad
theorem noEx_sum : ∀ a x r, gSum a ≠ .exn x r := fun a x r h => by
  unfold gSum at h
  split at h
  · split at h <;> cases h
  · cases h
theorem ra_sum : RA cm b (rSum X.K) (g1 gSum) := fun W H vs ds w rs Q hp => by
  match ds, rs, hp with
  | [], _, hp => exact hp.elim
  | _ :: _ :: _, _, hp => exact hp.elim
  | [d], rs, hp =>
    generalize hf : ([] : List Addr) = fp at rs
    cases rs with
    | cons rx r0 =>
      obtain ⟨rfl, rfl⟩ := app_nil hf
      cases r0
      replace hp : Post (gSum d) (QP cm W b H Q) noX := hp
      unfold gSum at hp
      split at hp
      · rename_i o xs
        split at hp
        · rename_i ns hns
          generalize hf : ([] : List Addr) = fp at rx
          cases rx with
          | lstO h r => cases hf
          | lstF h nw r => exact ⟨_, ns, rfl, by rw [← intsD_reps r hns]; exact SqL.of h, hp (.int ns.sum) H [] (Ex.refl H) (.int _) FpN.nil⟩
        · exact hp.elim
      · exact hp.elim
theorem de_sum {fs : Env → Out (List D)} (hc : X.calm = true) (hg : Gl X "sum") (hm : X.mg "sum" = none) (ha : DA X cm E false [e] fs) (hv : bootBuiltins "sum" = some (.builtin "sum") := by decide +kernel) (he : starEach [e] X.env = (false, eval e X.env) :: starEach [] X.env := by rfl) (hpl : (backTo pos (starEach [] X.env)).any (·.1) = false := by rfl) : DE X cm E b (.Call (.Name "sum" p) [e] [] pos) (cA (g1 gSum) fs) :=
  de_blt (cr_sum hc) ra_sum (noEx_g1 noEx_sum) hg hm hv ha (by decide) (by decide) he hpl
/-! ### a sign counted in a text -/
open PySem.StrLaws in
theorem count_go (cs : List Nat) (c : Nat) : ∀ (m k : Nat) (st : Array Nat × Nat), k + m = cs.length + 1 → st.snd ≤ k → st.fst.size ≤ k → ((forIn (List.range' k m) st (occBody ⟨cs.toArray⟩ ⟨#[c]⟩ cs.length (cs.length + 1))).run.fst).size = st.fst.size + (cs.drop k).count c
  | 0, k, st, h, _, _ => by
    have : cs.drop k = [] := List.drop_eq_nil_of_le (by omega)
    rw [this]
    rfl
  | m + 1, k, st, h, h1, h2 => by
    have h1c : (⟨#[c]⟩ : Str).length = 1 := rfl
    have hso := subAt_one ⟨cs.toArray⟩ c k
    have hsl : (⟨cs.toArray⟩ : Str).length = cs.length := by simp [Str.length]
    by_cases hk : k < cs.length
    · rw [List.drop_eq_getElem_cons hk]
      by_cases hc : cs[k] = c
      · have hb : occBody ⟨cs.toArray⟩ ⟨#[c]⟩ cs.length (cs.length + 1) k st = pure (ForInStep.yield (st.fst.push k, k + 1)) := by
          unfold occBody
          rw [if_pos]
          · rfl
          · exact ⟨⟨⟨by omega, h1⟩, by rw [h1c]; omega⟩, (hso.mpr (by simp [hk, hc])).2⟩
        rw [List.range'_succ, List.forIn_cons, hb]
        show ((forIn (List.range' (k + 1) m) (st.fst.push k, k + 1) (occBody ⟨cs.toArray⟩ ⟨#[c]⟩ cs.length (cs.length + 1))).run.fst).size = _
        rw [count_go cs c m (k + 1) _ (by omega) (by show k + 1 ≤ k + 1; omega) (by simp; omega), List.count_cons]
        simp [hc]
        omega
      · have hb : occBody ⟨cs.toArray⟩ ⟨#[c]⟩ cs.length (cs.length + 1) k st = pure (ForInStep.yield (st.fst, st.snd)) := by
          unfold occBody
          rw [if_neg]
          rintro ⟨_, z⟩
          have := hso.mp ⟨by rw [h1c, hsl]; omega, z⟩
          simp [hk] at this
          exact hc this
        rw [List.range'_succ, List.forIn_cons, hb]
        show ((forIn (List.range' (k + 1) m) (st.fst, st.snd) (occBody ⟨cs.toArray⟩ ⟨#[c]⟩ cs.length (cs.length + 1))).run.fst).size = _
        rw [count_go cs c m (k + 1) _ (by omega) (by show st.snd ≤ k + 1; omega) (by show st.fst.size ≤ k + 1; omega), List.count_cons]
        simp [hc]
    · have : cs.drop k = [] := List.drop_eq_nil_of_le (by omega)
      rw [this]
      have hb : occBody ⟨cs.toArray⟩ ⟨#[c]⟩ cs.length (cs.length + 1) k st = pure (ForInStep.yield (st.fst, st.snd)) := by
        unfold occBody
        rw [if_neg]
        rintro ⟨⟨_, z⟩, _⟩
        rw [h1c] at z
        omega
      rw [List.range'_succ, List.forIn_cons, hb]
      show ((forIn (List.range' (k + 1) m) (st.fst, st.snd) (occBody ⟨cs.toArray⟩ ⟨#[c]⟩ cs.length (cs.length + 1))).run.fst).size = _
      rw [count_go cs c m (k + 1) _ (by omega) (by show st.snd ≤ k + 1; omega) (by show st.fst.size ≤ k + 1; omega)]
      rw [List.drop_eq_nil_of_le (by omega)]
theorem count_one (cs : List Nat) (c : Nat) : Txt.count ⟨cs.toArray⟩ ⟨[c].toArray⟩ = (cs.count c : Nat) := by
  show ((Builtin.Str.occurrences ⟨cs.toArray⟩ ⟨#[c]⟩ 0 (⟨cs.toArray⟩ : Str).length ((⟨cs.toArray⟩ : Str).length + 1)).length : Int) = _
  have hsl : (⟨cs.toArray⟩ : Str).length = cs.length := by simp [Str.length]
  rw [hsl, PySem.StrLaws.occ_eq, Array.length_toList]
  rw [show cs.length + 1 - 0 = cs.length + 1 from rfl, count_go cs c (cs.length + 1) 0 (#[], 0) (by omega) (by show (0 : Nat) ≤ 0; omega) (by show (0 : Nat) ≤ 0; omega)]
  simp
def gCnt : D → D → Out D := fun s l => match s, l with
  | .str cs, .str [c] => .ok (.int (cs.count c : Nat))
  | _, _ => .bad
theorem noEx_cnt : NoEx gCnt := fun a b x r h => by
  unfold gCnt at h
  split at h <;> cases h
theorem de_cnt {apos : Pos} (ha : DE X cm E false a fa) (hb : DE X cm E false c fb) (hs : starEach [c] X.env = [(false, eval c X.env)] := by rfl) (hbase : attributeBase a "count" X.env (eval a X.env) = eval a X.env := by rfl) (hline : (apos.endLine == pos.line) = true := by rfl) :
    DE X cm E b (.Call (.Attribute a "count" apos) [c] [] pos) (c2S gCnt fa fb) :=
  de_m1 (te := fun x _ => x) (fun ta tb h1 h3 => pe_m1 PySem.F.slot_str_count PySem.F.type_str_count mt_count h1 h3 hs hbase hline) (fun W H x y dx dy w rx ry Q hp => by
    unfold gCnt at hp
    split at hp
    · rename_i cs c
      cases rx
      cases ry
      refine ⟨_, _, rfl, rfl, ?_⟩
      rw [count_one]
      exact hp (.int _) H [] (Ex.refl H) (.int _) FpN.nil
    · exact hp.elim) noEx_cnt ha hb
/-! ### len(range(n)) -/
theorem cr_range1 : CallR X (.type "range") (fun vs H Q => ∃ j, vs = [V.int j] ∧ ∀ p, H p = none → Q (.ref p) (upd H p (.rng 0 j))) := by
  intro pins s σ H vs us Q I r h
  obtain ⟨j, rfl, q⟩ := h
  obtain ⟨u1, rfl, rj⟩ := vals1 r
  obtain ⟨u, rfl⟩ := rj
  refine PySem.call_range_1 ⟨.ref s.heap.objs.size, upd H s.heap.objs.size (.rng 0 j), I.laid (t' := s.toks + 1 + 1) (fun b o e => Heap.get?_push_of_some _ e) (Nat.le_refl _) ?_, rfl, q _ (I.hok.fresh (Nat.le_refl _))⟩
  exact ⟨s.toks, u, s.toks + 1, Heap.get?_push_size _ rfl⟩
theorem call_len_rng : CallR X (.builtin "len") (fun vs H Q => ∃ a j, vs = [V.ref a] ∧ H a = some (.rng 0 j) ∧ 0 ≤ j ∧ j < 1000000000 ∧ Q (.int j) H) := by
  intro pins s σ H vs us Q I r h
  obtain ⟨a, j, rfl, ha, h0, h1, q⟩ := h
  obtain ⟨u1, rfl, rj⟩ := vals1 r
  cases rj
  obtain ⟨t, u, v, ho⟩ := (show ObjOk X.prog X.w H s.heap a (.rng 0 j) from I.hok a _ ha)
  have hs : Builtin.Range.rangeSize 0 j 1 = ((j.toNat : Nat) : Int) := by
    unfold Builtin.Range.rangeSize
    simp
    omega
  refine call_len_range (n := j.toNat) ho hs (by omega) ⟨.int j, H, I.tok _, ⟨_, by rw [Int.toNat_of_nonneg h0]⟩, q⟩
def gLenR : D → Out D
  | .int j => if 0 ≤ j ∧ j.toNat ≤ 1000000 then .ok (.int j) else .bad
  | _ => .bad
theorem de_lenR {p2 pos2 : Pos} (hg : Gl X "len") (hm : X.mg "len" = none) (hg2 : Gl X "range") (hm2 : X.mg "range" = none) (ha : DE X cm E false a fa) (hv : bootBuiltins "range" = some (.type "range") := by decide +kernel) (h1 : starEach [a] X.env = (false, eval a X.env) :: starEach [] X.env := by rfl) (h2 : (backTo pos2 (starEach [] X.env)).any (·.1) = false := by rfl)
    (h3 : starEach [.Call (.Name "range" p2) [a] [] pos2] X.env = (false, eval (.Call (.Name "range" p2) [a] [] pos2) X.env) :: starEach [] X.env := by rfl) (h4 : (backTo pos (starEach [] X.env)).any (·.1) = false := by rfl) :
    DE X cm E b (.Call (.Name "len" p) [.Call (.Name "range" p2) [a] [] pos2] [] pos) (c1 gLenR fa) := by
  obtain ⟨ta, q1, q2⟩ := ha.ex
  have k1 := pe_callTy (pos := pos2) (p := p2) (X := X) cr_range1 hg2 hm2 hv (pa_cons q1 pa_nil h1) (by decide) (by decide) h1 h2
  have k2 := pe_callB (pos := pos) (p := p) (X := X) call_len_rng hg hm PySem.boot_len (pa_cons k1 pa_nil h3) (by decide) (by decide) h3 h4
  refine ⟨_, k2, fun W H σ r w fr Q hp => q2 W H σ r w fr _ (hp.bind.mono (fun d q v H1 fp e1 r1 f1 => ?_) fun _ _ z => z)⟩
  unfold gLenR at q
  split at q
  · rename_i j
    split at q
    · rename_i hj
      cases r1
      exact ⟨j, rfl, fun pp hpp => ⟨pp, j, rfl, upd_same, hj.1, by omega, q (.int j) _ [] (e1.trans (Ex.new hpp)) (.int j) FpN.nil⟩⟩
    · exact q.elim
  · exact q.elim
/-! ### a, b, .. = a list -/
def sL (n : Nat) (g : List D → Env → Out Env) : D → Env → Out Env := fun d r => match d with
  | .lst _ ds => if ds.length = n then g ds r else .bad
  | _ => .bad
theorem xg_lst {es : List Expr} {k : Nat} {g : List D → Env → Out Env} {n : Nat} (hc : X.calm = true) (h : XGs X cm ks es g) (hn : (assignEach es X.env).length = n := by rfl) (hst : (assignEach es X.env).findIdx? (·.1) = none := by rfl) : XG X cm ks (.Tuple es k pos) (sL n g) := by
  obtain ⟨t, a1, a2⟩ := h.ex
  refine ⟨_, pg_lst hc a1 hn hst, fun W0 H σ r fps v d gd rp Q hp => ?_⟩
  unfold sL at hp
  split at hp
  · split at hp
    · rename_i hl
      generalize hf : ([] : List Addr) = fp at rp
      cases rp with
      | lstO h r => cases hf
      | lstF h nw rr =>
        exact ⟨_, _, rfl, SqL.of h, by rw [rr.len]; exact hl, a2 W0 H σ r fps _ _ gd rr Q hp⟩
    · exact hp.elim
  · exact hp.elim
end
end DL

namespace DL
variable [Tbs]
open PySem L2
/-- the built-in classes are none of the class at C -/
structure NB (K : PySem.W.Frag) (C : Addr) : Prop where
  n1 : PySem.W.kitOne K (.type "NoneType") (.ref C) = some false
  n2 : PySem.W.kitOne K (.type "bool") (.ref C) = some false
  n3 : PySem.W.kitOne K (.type "int") (.ref C) = some false
  n4 : PySem.W.kitOne K (.type "str") (.ref C) = some false
  n5 : PySem.W.kitOne K (.type "list") (.ref C) = some false
  n6 : PySem.W.kitOne K (.type "tuple") (.ref C) = some false
  n7 : PySem.W.kitOne K (.type "dict") (.ref C) = some false
def gIsC (kit : Str → Option Bool) : D → Out D := fun d => match d with
  | .dK false _ _ => .bad
  | .dT false _ _ => .bad
  | .scr _ => .bad
  | .exc _ _ _ => .bad
  | .any => .bad
  | .obj _ c _ _ => match kit c with
    | some b => .ok (.bl b)
    | none => .bad
  | _ => .ok (.bl false)
section
variable {X : Cx} {cm : Cm} {E : XS} {b : Bool} {pos : Pos} {a c : Expr} {fa fb : F}
theorem Rep.tyC {kit : Str → Option Bool} {C : Addr} (hC : CmOk cm) (hb : NB cm.K C) (hkit : ∀ c b, kit c = some b → PySem.W.kitOne cm.K (.ref (cm.cl c)) (.ref C) = some b) {W : Addr → Prop} {H : Hp} {v : V} {d : D} (h : Rep cm W H v d []) {k : Bool} (hd : gIsC kit d = .ok (.bl k)) : ∃ ty, TyX cm.K H v ty ∧ PySem.W.kitOne cm.K ty (.ref C) = some k := by
  generalize hf : ([] : List Addr) = fp at h
  cases h with
  | non => cases hd; exact ⟨_, .base .non, hb.n1⟩
  | bl x => cases hd; exact ⟨_, .base (.bl x), hb.n2⟩
  | int x => cases hd; exact ⟨_, .base (.int x), hb.n3⟩
  | str x => cases hd; exact ⟨_, .base (.str _), hb.n4⟩
  | lstO h r => cases hf
  | lstF h n r => cases hd; exact ⟨_, .base (.lst h), hb.n5⟩
  | tup h n r => cases hd; exact ⟨_, .base (.tup h), hb.n6⟩
  | dKO h l r => cases hf
  | dKF h l n r => cases hd
  | dTO h l r => cases hf
  | dTF h l n r => cases hd
  | objO h l r => cases hf
  | objF h l n r =>
    rename_i c' fs vs ds
    have o := hC _ l.2
    replace hd : (match kit c' with | some b => Out.ok (D.bl b) | none => .bad) = .ok (.bl k) := hd
    cases hk : kit c' with
    | none => rw [hk] at hd; cases hd
    | some b' =>
      rw [hk] at hd
      cases hd
      exact ⟨_, .base (.ins h o.cl o.ha o.hn o.htk o.hm), hkit _ _ hk⟩
  | scrF h n => cases hd
  | scrK h => cases hd
  | exc => cases hd
  | any => cases hd
theorem de_isC {kit : Str → Option Bool} {x : Str} {p p2 : Pos} (hk : X.K = cm.K) (hC : CmOk cm) (hg : Gl X "isinstance") (hm : X.mg "isinstance" = none) (hg2 : Gl X x) (hm2 : X.mg x = some (.ref (cm.cl x))) (hb : NB X.K (cm.cl x)) (hkit : ∀ c b, kit c = some b → PySem.W.kitOne X.K (.ref (cm.cl c)) (.ref (cm.cl x)) = some b) (ha : DE X cm E false a fa)
    (hdb : (x == ("__debug__" : Str)) = false := by decide) (hs1 : starEach [a, .Name x p2] X.env = (false, eval a X.env) :: starEach [.Name x p2] X.env := by rfl) (hs2 : starEach [.Name x p2] X.env = (false, eval (.Name x p2) X.env) :: starEach [] X.env := by rfl) (hpl : (backTo pos (starEach [.Name x p2] X.env)).any (·.1) = false := by rfl) :
    DE X cm E b (.Call (.Name "isinstance" p) [a, .Name x p2] [] pos) (c1 (gIsC kit) fa) := by
  obtain ⟨ta, h1, h2⟩ := ha.ex
  refine ⟨_, pe_callB call_isi hg hm PyProof.Rows.boot_isinstance (pa_cons h1 (pa_cons (pe_glob (v := .ref (cm.cl x)) hg2 hm2 rfl hdb) pa_nil hs2) hs1) (by decide) (by decide) hs1 hpl, fun W H σ env w fr Q hp => h2 W H σ env w fr _ (hp.bind.mono (fun d q v H1 fp e1 r1 f1 => ?_) fun _ _ z => z)⟩
  cases (show fp = [] from f1)
  show rIsi X.K [v, .ref (cm.cl x)] H1 Q
  have key : ∃ k, gIsC kit d = .ok (.bl k) := by
    unfold gIsC at q ⊢
    split at q <;> first | exact q.elim | skip
    · rename_i c' _ _
      cases hkk : kit c' with
      | none => rw [hkk] at q; exact q.elim
      | some b' => exact ⟨b', rfl⟩
    · exact ⟨false, rfl⟩
  obtain ⟨k, hk'⟩ := key
  rw [hk'] at q
  obtain ⟨ty, k1, k2⟩ := r1.ofP.tyC hC (by rw [← hk]; exact hb) (by rw [← hk]; exact hkit) hk'
  exact ⟨v, .ref (cm.cl x), ty, .ref (cm.cl x), k, rfl, .own _, by rw [hk]; exact k1, by rw [hk]; exact k2, q _ H1 [] e1 (.bl _) FpN.nil⟩
end
end DL
namespace DL
variable [Tbs]
open PySem L2
def okT (l : List Str) (c : Str) : Prop := c ∈ l
theorem okT_mem {l : List Str} {c : Str} (h : l.contains c = true) : okT l c := by simpa [okT] using h
theorem okT_nil {P : Str → Prop} : ∀ c, okT [] c → P c := fun _ h => nomatch h
theorem okT_cons {P : Str → Prop} {a : Str} {l : List Str} (h : P a) (t : ∀ c, okT l c → P c) : ∀ c, okT (a :: l) c → P c := fun c m => by
  rcases List.mem_cons.mp m with rfl | m
  · exact h
  · exact t c m
theorem ob_mk {K : PySem.W.Frag} {C : Addr} (cl : Cls K C) (ha : PySem.W.findIn K (.ref C) "__class__" = some (some (.builtin "object.__class__"))) (hn : PySem.W.specialIn K (.builtin "object.__class__") "__get__" = some (some (.builtin "getset_descriptor.__get__"))) (htk : PySem.W.takesIn K (.builtin "object.__class__") = some true) (hm : PySem.W.mroIn K C (.type "object") = some true)
    (h1 : PySem.W.kitOne K (.ref C) (.type "int") = some false) (h2 : PySem.W.kitOne K (.ref C) (.type "bool") = some false) (h3 : PySem.W.kitOne K (.ref C) (.type "str") = some false) (h4 : PySem.W.kitOne K (.ref C) (.type "list") = some false) (h5 : PySem.W.kitOne K (.ref C) (.type "tuple") = some false) (h6 : PySem.W.kitOne K (.ref C) (.type "dict") = some false) : ObC K C :=
  ⟨cl, ha, hn, htk, hm, fun t => by cases t <;> assumption⟩
theorem binds_nil {K : PySem.W.Frag} {fd : FuncData} {ps : List Str} (h : ∃ ds, Vals [] ds ∧ Binds K fd ps ds) : Binds K fd ps [] := by
  obtain ⟨ds, h1, h2⟩ := h
  cases h1
  exact h2
end DL

namespace DL
variable [Tbs]
open PySem L2
/-! ### a node within what is one's own -/
inductive Step where
  | ix (j : Nat) | fld (f : Str)
def setFD (f : Str) (x : D) : List Str → List D → List D
  | g :: gs, d :: ds => if f = g then x :: ds else d :: setFD f x gs ds
  | _, ds => ds
def getP : List Step → D → Option D
  | [], d => some d
  | .ix j :: π, .lst true ds => (ds[j]?).bind (getP π)
  | .ix j :: π, .tup ds => (ds[j]?).bind (getP π)
  | .fld f :: π, .obj true _ fs ds => (getFD f fs ds).bind (getP π)
  | _, _ => none
def setP : List Step → D → D → D
  | [], e, _ => e
  | .ix j :: π, e, .lst true ds => .lst true (ds.set j (match ds[j]? with | some x => setP π e x | none => e))
  | .ix j :: π, e, .tup ds => .tup (ds.set j (match ds[j]? with | some x => setP π e x | none => e))
  | .fld f :: π, e, .obj true c fs ds => .obj true c fs (setFD f (match getFD f fs ds with | some x => setP π e x | none => e) fs ds)
  | _, _, d => d
inductive ValP (H : Hp) : List Step → V → V → Prop
  | nil {v : V} : ValP H [] v v
  | ixL {p : Addr} {vs : List V} {j : Nat} {u w : V} {π : List Step} : H p = some (.lst vs) → vs[j]? = some u → ValP H π u w → ValP H (.ix j :: π) (.ref p) w
  | ixT {p : Addr} {vs : List V} {j : Nat} {u w : V} {π : List Step} : H p = some (.tup vs) → vs[j]? = some u → ValP H π u w → ValP H (.ix j :: π) (.ref p) w
  | fld {p C dx : Addr} {fvs : List (Str × V)} {f : Str} {u w : V} {π : List Step} : H p = some (.ins C dx fvs) → fvs.lookup f = some u → ValP H π u w → ValP H (.fld f :: π) (.ref p) w
theorem ValP.ex {H H' : Hp} (e : Ex H H') : ∀ {π : List Step} {v u : V}, ValP H π v u → ValP H' π v u
  | _, _, _, .nil => .nil
  | _, _, _, .ixL h q r => .ixL (e _ _ h) q (ValP.ex e r)
  | _, _, _, .ixT h q r => .ixT (e _ _ h) q (ValP.ex e r)
  | _, _, _, .fld h q r => .fld (e _ _ h) q (ValP.ex e r)
theorem ValP.one {H : Hp} : ∀ {π : List Step} {v u u' : V}, ValP H π v u → ValP H π v u' → u = u'
  | _, _, _, _, .nil, .nil => rfl
  | _, _, _, _, .ixL h q r, .ixL h' q' r' => by
    rw [h] at h'; cases h'
    rw [q] at q'; cases q'
    exact r.one r'
  | _, _, _, _, .ixL h q r, .ixT h' q' r' => by rw [h] at h'; cases h'
  | _, _, _, _, .ixT h q r, .ixL h' q' r' => by rw [h] at h'; cases h'
  | _, _, _, _, .ixT h q r, .ixT h' q' r' => by
    rw [h] at h'; cases h'
    rw [q] at q'; cases q'
    exact r.one r'
  | _, _, _, _, .fld h q r, .fld h' q' r' => by
    rw [h] at h'; cases h'
    rw [q] at q'; cases q'
    exact r.one r'
theorem ValP.snoc {H : Hp} {st : Step} {u w : V} : ∀ {π : List Step} {v : V}, ValP H π v u → ValP H [st] u w → ValP H (π ++ [st]) v w
  | _, _, .nil, k => k
  | _, _, .ixL h q r, k => .ixL h q (ValP.snoc r k)
  | _, _, .ixT h q r, k => .ixT h q (ValP.snoc r k)
  | _, _, .fld h q r, k => .fld h q (ValP.snoc r k)
section
variable {cm : Cm}
theorem Reps.focus {W : Addr → Prop} {H : Hp} : ∀ (j : Nat) {vs : List V} {ds : List D} {fp : List Addr} {x : D}, Reps cm W H vs ds fp → ds[j]? = some x → ∃ u A fe B, vs[j]? = some u ∧ Rep cm W H u x fe ∧ fp = A ++ fe ++ B ∧
    ∀ {W' : Addr → Prop} {H' : Hp} {x' : D} {fe' : List Addr}, (∀ a, W' a → W a ∨ H a = none) → (∀ a o, H a = some o → isTb o = false → (¬ W a ∨ a ∈ A ∨ a ∈ B) → H' a = some o) → Rep cm W' H' u x' fe' → Reps cm W' H' vs (ds.set j x') (A ++ fe' ++ B)
  | j, _, _, _, _, .nil, h => by simp at h
  | 0, _, _, _, x, .cons (fp := f1) (fps := f2) (v := v) h r, e => by
    cases e
    exact ⟨v, [], f1, f2, rfl, h, rfl, fun hW hk rp => .cons rp (r.move hW fun a o q t z => hk a o q t (z.imp id .inr))⟩
  | j + 1, _, _, _, x, .cons (fp := f1) (fps := f2) h r, e => by
    obtain ⟨u, A, fe, B, h1, h2, rfl, h4⟩ := Reps.focus j r e
    refine ⟨u, f1 ++ A, fe, B, h1, h2, by simp, fun hW hk rp => ?_⟩
    have := Reps.cons (h.move hW fun a o q t z => hk a o q t (z.imp id fun z => .inl (List.mem_append_left _ z))) (h4 hW (fun a o q t z => hk a o q t (z.imp id fun z => z.imp (List.mem_append_right _) id)) rp)
    simpa using this
theorem Reps.focusF {W : Addr → Prop} {H : Hp} {f : Str} : ∀ {fs : List Str} {vs : List V} {ds : List D} {fp : List Addr} {x : D}, Reps cm W H vs ds fp → getFD f fs ds = some x → ∃ u A fe B, (fs.zip vs).lookup f = some u ∧ Rep cm W H u x fe ∧ fp = A ++ fe ++ B ∧
    ∀ {W' : Addr → Prop} {H' : Hp} {x' : D} {fe' : List Addr}, (∀ a, W' a → W a ∨ H a = none) → (∀ a o, H a = some o → isTb o = false → (¬ W a ∨ a ∈ A ∨ a ∈ B) → H' a = some o) → Rep cm W' H' u x' fe' → Reps cm W' H' vs (setFD f x' fs ds) (A ++ fe' ++ B)
  | [], _, _, _, _, r, h => by unfold getFD at h; cases h
  | g :: gs, _, _, _, _, .nil, h => by unfold getFD at h; cases h
  | g :: gs, _, _, _, x, .cons (fp := f1) (fps := f2) (v := v) h r, e => by
    unfold getFD at e
    rw [List.zip_cons_cons, List.lookup_cons]
    unfold setFD
    by_cases hf : f = g
    · rw [if_pos hf] at e
      cases e
      rw [beq_iff_eq.mpr hf]
      refine ⟨v, [], f1, f2, rfl, h, rfl, fun hW hk rp => ?_⟩
      rw [if_pos hf]
      exact .cons rp (r.move hW fun a o q t z => hk a o q t (z.imp id .inr))
    · rw [if_neg hf] at e
      rw [beq_false_of_ne hf]
      obtain ⟨u, A, fe, B, h1, h2, rfl, h4⟩ := Reps.focusF (fs := gs) r e
      refine ⟨u, f1 ++ A, fe, B, h1, h2, by simp, fun hW hk rp => ?_⟩
      rw [if_neg hf]
      have := Reps.cons (h.move hW fun a o q t z => hk a o q t (z.imp id fun z => .inl (List.mem_append_left _ z))) (h4 hW (fun a o q t z => hk a o q t (z.imp id fun z => z.imp (List.mem_append_right _) id)) rp)
      simpa using this
theorem Rep.focus {W : Addr → Prop} {H : Hp} : ∀ (π : List Step) {v : V} {d e : D} {fp : List Addr}, Rep cm W H v d fp → getP π d = some e → ∃ u A fe B, ValP H π v u ∧ Rep cm W H u e fe ∧ fp = A ++ fe ++ B ∧
    ∀ {W' : Addr → Prop} {H' : Hp} {e' : D} {fe' : List Addr}, (∀ a, W' a → W a ∨ H a = none) → (∀ a o, H a = some o → isTb o = false → (¬ W a ∨ a ∈ A ∨ a ∈ B) → H' a = some o) → Rep cm W' H' u e' fe' → Rep cm W' H' v (setP π e' d) (A ++ fe' ++ B)
  | [], v, d, e, fp, r, h => by
    cases h
    exact ⟨v, [], fp, [], .nil, r, by simp, fun _ _ rp => by simpa [setP] using rp⟩
  | .ix j :: π, v, d, e, fp, r, h => by
    cases r with
    | lstO hp rs =>
      rename_i p vs ds fp'
      replace h : (ds[j]?).bind (getP π) = some e := h
      obtain ⟨x, hx, hg⟩ := Option.bind_eq_some_iff.mp h
      obtain ⟨u, A, fe, B, h1, h2, rfl, h4⟩ := Reps.focus j rs hx
      obtain ⟨u2, A2, fe2, B2, k1, k2, rfl, k4⟩ := Rep.focus π h2 hg
      refine ⟨u2, p :: (A ++ A2), fe2, B2 ++ B, .ixL hp h1 k1, k2, by simp, fun {W' H' e' fe'} hW hk rp => ?_⟩
      have e1 := k4 hW (fun a o q t z => hk a o q t (z.imp id fun z => z.imp (fun m => List.mem_cons_of_mem _ (List.mem_append_right _ m)) (List.mem_append_left _))) rp
      have e2 := h4 hW (fun a o q t z => hk a o q t (z.imp id fun z => z.imp (fun m => List.mem_cons_of_mem _ (List.mem_append_left _ m)) (List.mem_append_right _))) e1
      have e3 : Rep cm W' H' (.ref p) (.lst true (ds.set j (setP π e' x))) (p :: (A ++ (A2 ++ fe' ++ B2) ++ B)) := .lstO (hk _ _ hp rfl (.inr (.inl (List.mem_cons_self ..)))) e2
      have e4 : setP (.ix j :: π) e' (.lst true ds) = .lst true (ds.set j (setP π e' x)) := by simp [setP, hx]
      rw [e4]
      simpa using e3
    | tup hp nw rs =>
      rename_i p vs ds
      replace h : (ds[j]?).bind (getP π) = some e := h
      obtain ⟨x, hx, hg⟩ := Option.bind_eq_some_iff.mp h
      obtain ⟨u, A, fe, B, h1, h2, rfl, h4⟩ := Reps.focus j rs hx
      obtain ⟨u2, A2, fe2, B2, k1, k2, rfl, k4⟩ := Rep.focus π h2 hg
      refine ⟨u2, A ++ A2, fe2, B2 ++ B, .ixT hp h1 k1, k2, by simp, fun {W' H' e' fe'} hW hk rp => ?_⟩
      have e1 := k4 hW (fun a o q t z => hk a o q t (z.imp id fun z => z.imp (List.mem_append_right _) (List.mem_append_left _))) rp
      have e2 := h4 hW (fun a o q t z => hk a o q t (z.imp id fun z => z.imp (List.mem_append_left _) (List.mem_append_right _))) e1
      have e3 : Rep cm W' H' (.ref p) (.tup (ds.set j (setP π e' x))) (A ++ (A2 ++ fe' ++ B2) ++ B) := .tup (hk _ _ hp rfl (.inl nw)) (fun z => (hW _ z).elim nw fun q => by rw [hp] at q; cases q) e2
      have e4 : setP (.ix j :: π) e' (.tup ds) = .tup (ds.set j (setP π e' x)) := by simp [setP, hx]
      rw [e4]
      simpa using e3
    | _ => simp [getP] at h
  | .fld f :: π, v, d, e, fp, r, h => by
    cases r with
    | objO hp l rs =>
      rename_i p dx c fs vs ds fp'
      replace h : (getFD f fs ds).bind (getP π) = some e := h
      obtain ⟨x, hx, hg⟩ := Option.bind_eq_some_iff.mp h
      obtain ⟨u, A, fe, B, h1, h2, rfl, h4⟩ := Reps.focusF rs hx
      obtain ⟨u2, A2, fe2, B2, k1, k2, rfl, k4⟩ := Rep.focus π h2 hg
      refine ⟨u2, p :: (A ++ A2), fe2, B2 ++ B, .fld hp h1 k1, k2, by simp, fun {W' H' e' fe'} hW hk rp => ?_⟩
      have e1 := k4 hW (fun a o q t z => hk a o q t (z.imp id fun z => z.imp (fun m => List.mem_cons_of_mem _ (List.mem_append_right _ m)) (List.mem_append_left _))) rp
      have e2 := h4 hW (fun a o q t z => hk a o q t (z.imp id fun z => z.imp (fun m => List.mem_cons_of_mem _ (List.mem_append_left _ m)) (List.mem_append_right _))) e1
      have e3 : Rep cm W' H' (.ref p) (.obj true c fs (setFD f (setP π e' x) fs ds)) (p :: (A ++ (A2 ++ fe' ++ B2) ++ B)) := .objO (hk _ _ hp rfl (.inr (.inl (List.mem_cons_self ..)))) l e2
      have e4 : setP (.fld f :: π) e' (.obj true c fs ds) = .obj true c fs (setFD f (setP π e' x) fs ds) := by simp [setP, hx]
      rw [e4]
      simpa using e3
    | _ => simp [getP] at h
end
end DL

namespace DL
variable [Tbs]
open PySem L2
section
variable {X : Cx} {cm : Cm} {E : XS} {b : Bool} {pos p apos : Pos} {ks : Nat → Bool} {a c e o : Expr} {es : List Expr} {fa : F}
/-- a node of slot i is changed; what stands there is now d', with the own nodes fpN -/
theorem Good.mutG {W0 : Addr → Prop} {H : Hp} {σ : St} {r : Env} {fps : Fps} {i : Nat} {pa : Addr} {v : V} {d' : D} {o : HO} {fpN fpv : List Addr} (g : Good cm (Wp W0 fpv) H σ r fps) (hv : σ[i]? = some (some v)) (ho : isM o = true) (hpa : pa ∈ fps i) (hmk : ∀ W', (∀ a, W' a → Wof (Wp W0 fpv) fps a) → Rep cm W' (upd H pa o) v d' fpN) (hsub : ∀ a ∈ fpN, a ∈ fps i ∨ a ∈ fpv) (nd : fpN.Nodup) (nw : ∀ a ∈ fpv, ¬ W0 a) :
    Good cm W0 (upd H pa o) σ (r.set i (some d')) (fun j => if j = i then fpN else fps j) := by
  have sub : ∀ {j a}, a ∈ (if j = i then fpN else fps j) → (j = i ∧ a ∈ fpN) ∨ (j ≠ i ∧ a ∈ fps j) := fun {j a} m => by
    split at m
    · exact .inl ⟨by assumption, m⟩
    · exact .inr ⟨by assumption, m⟩
  have own : ∀ {j a}, a ∈ (if j = i then fpN else fps j) → Wof (Wp W0 fpv) fps a := fun {j a} m => by
    rcases sub m with ⟨_, m⟩ | ⟨_, m⟩
    · exact (hsub a m).elim (fun m => .inr ⟨i, m⟩) fun m => .inl (.inr m)
    · exact .inr ⟨j, m⟩
  have wsub : ∀ a, Wof W0 (fun j => if j = i then fpN else fps j) a → Wof (Wp W0 fpv) fps a := fun a z => by
    rcases z with z | ⟨j, m⟩
    · exact .inl (.inl z)
    · exact own m
  have mut' : ∀ a, MutAt H a → MutAt (upd H pa o) a := fun a ⟨o', h1, h2⟩ => by
    by_cases e : a = pa
    · subst e; exact ⟨_, upd_same, ho⟩
    · exact ⟨o', by rw [upd_ne e]; exact h1, h2⟩
  have nother : ∀ j a, j ≠ i → a ∈ fps j → a ≠ pa ∧ a ∉ fpN := fun j a hj m => ⟨fun z => hj (g.dj j i a m (z ▸ hpa)), fun z => (hsub a z).elim (fun z => hj (g.dj j i a m z)) fun z => g.nw j a m (.inr z)⟩
  refine ⟨by rw [List.length_set]; exact g.len, ⟨fun a z => mut' a (g.w0.1 a (.inl z)), Tabs.updM g.w0.2 (g.mu i pa hpa)⟩, fun j d hj => ?_, fun j => ?_, fun j j' a m m' => ?_, fun j a m z => ?_, fun j a m => ?_⟩
  · rw [List.getElem?_set] at hj
    by_cases e : i = j
    · subst e
      rw [if_pos rfl] at hj
      split at hj
      · cases hj
        rw [if_pos rfl]
        exact ⟨_, hv, hmk _ wsub⟩
      · cases hj
    · rw [if_neg e] at hj
      rw [if_neg (Ne.symm e)]
      obtain ⟨u, e1, e2⟩ := g.sl j d hj
      refine ⟨u, e1, e2.move (fun a z => .inl (wsub a z)) fun a o q _ cc => ?_⟩
      rw [upd_ne]
      · exact q
      · rcases cc with cc | cc
        · exact fun z => cc (.inr ⟨i, z ▸ hpa⟩)
        · exact (nother j a (Ne.symm e) cc).1
  · split
    · exact nd
    · exact g.nd j
  · rcases sub m with ⟨e, m⟩ | ⟨e, m⟩ <;> rcases sub m' with ⟨e', m'⟩ | ⟨e', m'⟩
    · rw [e, e']
    · exact absurd m (nother j' a e' m').2
    · exact absurd m' (nother j a e m).2
    · exact g.dj j j' a m m'
  · rcases sub m with ⟨_, m⟩ | ⟨_, m⟩
    · exact (hsub a m).elim (fun m => g.nw i a m (.inl z)) fun m => nw a m z
    · exact g.nw j a m (.inl z)
  · exact mut' a (g.wof.1 a (own m))
theorem Fram.mutG {H H1 : Hp} {fps f1 : Fps} {i : Nat} {pa : Addr} {o : HO} {fpN fpv fq : List Addr} (fm : Fram H fps H1 f1 fpv) (hpa : pa ∈ f1 i) (hh : MutAt H1 pa) (hsub : ∀ a ∈ fpN, a ∈ f1 i ∨ a ∈ fpv) (hq : ∀ a ∈ fq, a ∈ f1 i ∨ a ∈ fpv) : Fram H fps (upd H1 pa o) (fun j => if j = i then fpN else f1 j) fq where
  tb := fun h => Tabs.updM (fm.tb h) hh
  keep := fun a u q n t => by
    rw [upd_ne]
    · exact fm.keep a u q n t
    · intro z
      subst z
      rcases fm.old i _ hpa with ⟨j, m⟩ | z
      · exact n j m
      · rw [q] at z; cases z
  old := fun j a m => by
    split at m
    · exact (hsub a m).elim (fm.old i a) (fm.oldv a)
    · exact fm.old j a m
  oldv := fun a m => (hq a m).elim (fm.old i a) (fm.oldv a)
  back := fun a q => by
    by_cases e : a = pa
    · subst e; rw [upd_same] at q; cases q
    · rw [upd_ne e] at q; exact fm.back a q
/-- a list within slot i is changed -/
theorem mut_core {W0 : Addr → Prop} {H H1 : Hp} {σ : St} {r : Env} {fps f1 : Fps} {i : Nat} {v0 : V} {d : D} {π : List Step} {ds : List D} {p1 : List Addr} (g : Good cm (Wp W0 p1) H1 σ r f1) (w1 : ∀ a ∈ p1, ¬ W0 a) (n1 : p1.Nodup) (fm : Fram H fps H1 f1 p1) (hv : σ[i]? = some (some v0)) (hd : r[i]? = some (some d)) (hg : getP π d = some (.lst true ds)) :
    ∃ pa vs fe, ValP H1 π v0 (.ref pa) ∧ H1 pa = some (.lst vs) ∧ Reps cm (Wof (Wp W0 p1) f1) H1 vs ds fe ∧ (∀ a ∈ fe, a ∈ f1 i) ∧ fe.Nodup ∧
      ∀ {vs' : List V} {ds' : List D} {fe' : List Addr}, Reps cm (Wof (Wp W0 p1) f1) H1 vs' ds' fe' → (∀ a ∈ fe', a ∈ fe ∨ a ∈ p1) → fe'.Nodup →
        ∃ fN, Good cm W0 (upd H1 pa (.lst vs')) σ (r.set i (some (setP π (.lst true ds') d))) fN ∧ Fram H fps (upd H1 pa (.lst vs')) fN [] := by
  obtain ⟨v, q1, q2⟩ := g.sl i d hd
  rw [hv] at q1
  cases q1
  obtain ⟨u, A, fe0, B, k1, k2, k3, k4⟩ := q2.focus π hg
  obtain ⟨pa, vs, fe, rfl, hpa, rfl, hr⟩ := k2.lstOf
  have nd := g.nd i
  rw [k3] at nd
  have nd1 := List.nodup_append.mp nd
  have nd2 := List.nodup_append.mp nd1.1
  have nd3 := List.nodup_cons.mp nd2.2.1
  have hsubF : ∀ a ∈ fe, a ∈ f1 i := fun a m => by rw [k3]; exact List.mem_append_left _ (List.mem_append_right _ (List.mem_cons_of_mem _ m))
  have hmem : pa ∈ f1 i := by rw [k3]; exact List.mem_append_left _ (List.mem_append_right _ (List.mem_cons_self ..))
  refine ⟨pa, vs, fe, k1, hpa, hr, hsubF, nd3.2, fun {vs' ds' fe'} hr' hs hn => ?_⟩
  have inA : ∀ a ∈ A, a ∈ f1 i := fun a m => by rw [k3]; exact List.mem_append_left _ (List.mem_append_left _ m)
  have inB : ∀ a ∈ B, a ∈ f1 i := fun a m => by rw [k3]; exact List.mem_append_right _ m
  have p1n : ∀ a ∈ p1, a ∉ f1 i := fun a m z => g.nw i a z (.inr m)
  have nA : pa ∉ A := fun m => nd2.2.2 pa m pa (List.mem_cons_self ..) rfl
  have nB : pa ∉ B := fun m => nd1.2.2 pa (List.mem_append_right _ (List.mem_cons_self ..)) pa m rfl
  have npe : pa ∉ fe' := fun m => (hs pa m).elim nd3.1 fun m => p1n pa m hmem
  have hsub : ∀ a ∈ A ++ (pa :: fe') ++ B, a ∈ f1 i ∨ a ∈ p1 := fun a m => by
    rcases List.mem_append.mp m with m | m
    · rcases List.mem_append.mp m with m | m
      · exact .inl (inA a m)
      · rcases List.mem_cons.mp m with rfl | m
        · exact .inl hmem
        · exact (hs a m).imp (hsubF a) id
    · exact .inl (inB a m)
  have hnd : (A ++ (pa :: fe') ++ B).Nodup := by
    refine List.nodup_append.mpr ⟨List.nodup_append.mpr ⟨nd2.1, List.nodup_cons.mpr ⟨npe, hn⟩, fun x m y m' z => ?_⟩, nd1.2.1, fun x m y m' z => ?_⟩
    · subst z
      rcases List.mem_cons.mp m' with rfl | m'
      · exact nA m
      · rcases hs x m' with m' | m'
        · exact nd2.2.2 x m x (List.mem_cons_of_mem _ m') rfl
        · exact p1n x m' (inA x m)
    · subst z
      rcases List.mem_append.mp m with m | m
      · exact nd1.2.2 x (List.mem_append_left _ m) x m' rfl
      · rcases List.mem_cons.mp m with rfl | m
        · exact nB m'
        · rcases hs x m with m | m
          · exact nd1.2.2 x (List.mem_append_right _ (List.mem_cons_of_mem _ m)) x m' rfl
          · exact p1n x m (inB x m')
  refine ⟨_, g.mutG (o := .lst vs') hv rfl hmem (fun W' hW => k4 (fun a z => .inl (hW a z)) (fun a o q _ z => ?_) (.lstO upd_same (hr'.move (fun a z => .inl (hW a z)) fun a o q _ cc => ?_))) hsub hnd w1, fm.mutG hmem (g.mu i pa hmem) hsub fun _ m => nomatch m⟩
  · rw [upd_ne]
    · exact q
    · rintro rfl
      rcases z with z | z | z
      · exact z (.inr ⟨i, hmem⟩)
      · exact nA z
      · exact nB z
  · rw [upd_ne]
    · exact q
    · rintro rfl
      rcases cc with cc | cc
      · exact cc (.inr ⟨i, hmem⟩)
      · exact npe cc
/-! ### what leads there: x, e[k], e.f -/
structure XP (X : Cx) (cm : Cm) (e : Expr) (i : Nat) (fp : Env → Out (List Step)) : Prop where
  ex : ∃ te, PE X e te ∧ ∀ W0 H σ r fps d v0, Good cm W0 H σ r fps → r[i]? = some (some d) → σ[i]? = some (some v0) → ∀ π, fp r = .ok π → (∃ x, getP π d = some x) ∧ ∀ Q : VK, (∀ H' u, Ex H H' → ValP H' π v0 u → Q u H') → te σ H Q
def pVar (i : Nat) : Env → Out (List Step) := fun r => match r[i]? with
  | some (some _) => .ok []
  | _ => .bad
theorem xp_var (i : Nat) (h : PE X e (tVar i)) : XP X cm e i (pVar i) := by
  refine ⟨_, h, fun W0 H σ r fps d v0 g hd hv π hp => ?_⟩
  unfold pVar at hp
  rw [hd] at hp
  cases hp
  exact ⟨⟨d, rfl⟩, fun Q hq => ⟨v0, hv, hq H v0 (Ex.refl H) .nil⟩⟩
theorem getP_snoc {st : Step} : ∀ {π : List Step} {d x : D}, getP π d = some x → getP (π ++ [st]) d = getP [st] x
  | [], d, x, h => by cases h; rfl
  | .ix j :: π, d, x, h => by
    cases d with
    | lst o ds =>
      cases o with
      | false => simp [getP] at h
      | true =>
        obtain ⟨y, h1, h2⟩ := Option.bind_eq_some_iff.mp (show (ds[j]?).bind (getP π) = some x from h)
        show (ds[j]?).bind (getP (π ++ [st])) = _
        rw [h1]
        exact getP_snoc h2
    | tup ds =>
      obtain ⟨y, h1, h2⟩ := Option.bind_eq_some_iff.mp (show (ds[j]?).bind (getP π) = some x from h)
      show (ds[j]?).bind (getP (π ++ [st])) = _
      rw [h1]
      exact getP_snoc h2
    | _ => simp [getP] at h
  | .fld f :: π, d, x, h => by
    cases d with
    | obj o c fs ds =>
      cases o with
      | false => simp [getP] at h
      | true =>
        obtain ⟨y, h1, h2⟩ := Option.bind_eq_some_iff.mp (show (getFD f fs ds).bind (getP π) = some x from h)
        show (getFD f fs ds).bind (getP (π ++ [st])) = _
        rw [h1]
        exact getP_snoc h2
    | _ => simp [getP] at h
/-- the items of a list or a tuple that is one's own -/
def itsP (π : List Step) (d : D) : Option (List D) := match getP π d with
  | some (.lst true ds) => some ds
  | some (.tup ds) => some ds
  | _ => none
def pIx (i : Nat) (ns : List Nat) (fp : Env → Out (List Step)) (fk : F) : Env → Out (List Step) := fun r => match fp r, r[i]?, fk (view ns r) with
  | .ok π, some (some d), .ok (.int k) => match itsP π d with
    | some ds => match ixN ds.length k with
      | some j => .ok (π ++ [.ix j])
      | none => .bad
    | none => .bad
  | _, _, _ => .bad
theorem ixN_lt {n : Nat} {k : Int} {j : Nat} (h : ixN n k = some j) : j < n := by
  unfold ixN at h
  split at h
  · split at h
    · cases h; omega
    · cases h
  · split at h
    · cases h; omega
    · cases h
theorem xp_ix (i : Nat) (ns : List Nat) {fp : Env → Out (List Step)} (h : XP X cm e i fp) (hk : DE X cm E0' false c fa) (hs : PlainIx c := by exact fun _ _ => rfl) : XP X cm (.Subscript e c pos) i (pIx i ns fp fa) := by
  obtain ⟨te, a1, a2⟩ := h.ex
  obtain ⟨tk, b1, b2⟩ := hk.ex
  refine ⟨_, pe_ix (ix_list.or ix_tup) a1 b1 hs, fun W0 H σ r fps d v0 g hd hv π hp => ?_⟩
  unfold pIx at hp
  split at hp
  · rename_i π0 d0 k h1 h2 h3
    rw [hd] at h2
    cases h2
    obtain ⟨⟨x, hx⟩, hq⟩ := a2 W0 H σ r fps d v0 g hd hv π0 h1
    unfold itsP at hp
    rw [hx] at hp
    have key : ∀ {ds : List D}, (x = .lst true ds ∨ x = .tup ds) → ∀ {j : Nat}, ixN ds.length k = some j → π = π0 ++ [.ix j] → (∃ y, getP π d = some y) ∧ ∀ Q : VK, (∀ H' u, Ex H H' → ValP H' π v0 u → Q u H') → tOp (fun x y H Q => rIxL X.K x y H Q ∨ rIxT X.K x y H Q) te tk σ H Q := by
      intro ds hxd j hj e
      have hjl : j < ds.length := ixN_lt hj
      refine ⟨⟨ds[j], ?_⟩, fun Q hQ => hq _ fun H1 u e1 vp => ?_⟩
      · rw [e, getP_snoc hx]
        rcases hxd with rfl | rfl <;> simp [getP, hjl]
      · have g1 := g.ex e1
        obtain ⟨v, q1, q2⟩ := g1.sl i d hd
        rw [hv] at q1
        cases q1
        obtain ⟨u', A, fe, B, k1, k2, k3, k4⟩ := q2.focus π0 hx
        cases vp.one k1
        refine b2 (Wr W0 fps ns) H1 σ (view ns r) (g1.wr ns) (g1.view ns) _ ?_
        rw [h3]
        intro y H2 fpv e2 rp fn
        cases rp
        rcases hxd with rfl | rfl
        · cases k2 with
          | lstO hp2 rs =>
            rename_i pa vs fp'
            have hlen := rs.len
            have hu : ∃ w, vs[j]? = some w := ⟨vs[j]'(by omega), by simp [hlen, hjl]⟩
            obtain ⟨w, hw⟩ := hu
            refine .inl ⟨pa, vs, k, w, rfl, rfl, SqL.of (e2 _ _ hp2), by unfold atI; rw [hlen, hj]; exact hw, ?_⟩
            refine hQ H2 w (e1.trans e2) ?_
            rw [e]
            exact (vp.ex e2).snoc (.ixL (e2 _ _ hp2) hw .nil)
        · cases k2 with
          | tup hp2 nw rs =>
            rename_i pa vs
            have hlen := rs.len
            have hu : ∃ w, vs[j]? = some w := ⟨vs[j]'(by omega), by simp [hlen, hjl]⟩
            obtain ⟨w, hw⟩ := hu
            refine .inr ⟨pa, vs, k, w, rfl, rfl, SqT.of (e2 _ _ hp2), by unfold atI; rw [hlen, hj]; exact hw, ?_⟩
            refine hQ H2 w (e1.trans e2) ?_
            rw [e]
            exact (vp.ex e2).snoc (.ixT (e2 _ _ hp2) hw .nil)
    cases x with
    | lst o ds =>
      cases o with
      | false => cases hp
      | true =>
        simp only [] at hp
        split at hp
        · rename_i j hj; cases hp; exact key (.inl rfl) hj rfl
        · cases hp
    | tup ds =>
      simp only [] at hp
      split at hp
      · rename_i j hj; cases hp; exact key (.inr rfl) hj rfl
      · cases hp
    | _ => cases hp
  · cases hp
def pFld (i : Nat) (cl f : Str) (fp : Env → Out (List Step)) : Env → Out (List Step) := fun r => match fp r, r[i]? with
  | .ok π, some (some d) => match getP π d with
    | some (.obj true c' fs ds) => if c' = cl ∧ (getFD f fs ds).isSome = true then .ok (π ++ [.fld f]) else .bad
    | _ => .bad
  | _, _ => .bad
theorem xp_fld (i : Nat) {cl f : Str} {fp : Env → Out (List Step)} (hk : X.K = cm.K) (hC : CmOk cm) (hn : NoAttr X.K (cm.cl cl) f) (h : XP X cm e i fp) (hb : attributeBase e f X.env (eval e X.env) = eval e X.env := by rfl) : XP X cm (.Attribute e f pos) i (pFld i cl f fp) := by
  obtain ⟨te, a1, a2⟩ := h.ex
  refine ⟨_, pe_fld a1 hb, fun W0 H σ r fps d v0 g hd hv π hp => ?_⟩
  unfold pFld at hp
  split at hp
  · rename_i π0 d0 h1 h2
    rw [hd] at h2
    cases h2
    obtain ⟨⟨x, hx⟩, hq⟩ := a2 W0 H σ r fps d v0 g hd hv π0 h1
    rw [hx] at hp
    split at hp
    · rename_i c' fs ds hx'
      cases hx'
      split at hp
      · rename_i hc
        obtain ⟨rfl, hs⟩ := hc
        cases hp
        obtain ⟨y, hy⟩ := Option.isSome_iff_exists.mp hs
        refine ⟨⟨y, by rw [getP_snoc hx]; simp [getP, hy]⟩, fun Q hQ => hq _ fun H1 u e1 vp => ?_⟩
        have g1 := g.ex e1
        obtain ⟨v, q1, q2⟩ := g1.sl i d hd
        rw [hv] at q1
        cases q1
        obtain ⟨u', A, fe, B, k1, k2, k3, k4⟩ := q2.focus π0 hx
        cases vp.one k1
        obtain ⟨hok, pa, dx, vs, fp', rfl, hpa, hlen, _, rs⟩ := k2.objOf
        obtain ⟨w, _, _, _, l1, _, _, _⟩ := Reps.focusF rs hy
        exact ⟨pa, _, dx, _, w, rfl, hpa, by rw [hk]; exact (hC _ hok).cl, hn, l1, hQ H1 w e1 (vp.snoc (.fld hpa l1 .nil))⟩
      · cases hp
    · cases hp
  · cases hp
/-! ### e.append(x), e a list within slot i; x without effect -/
def sAppP (i : Nat) (fp : Env → Out (List Step)) (ns : List Nat) (f : F) : FX := fun r => match fp r, r[i]?, f (view ns r) with
  | .ok π, some (some d), .ok x => match getP π d, (if shr x = true then frzN ns r else r)[i]? with
    | some (.lst true _), some (some d1) => match getP π d1 with
      | some (.lst true es) => if es.length < 1000000 then .ok (.non, (if shr x = true then frzN ns r else r).set i (some (setP π (.lst true (es ++ [x])) d1))) else .bad
      | _ => .bad
    | _, _ => .bad
  | _, _, _ => .bad
theorem xe_appP (i : Nat) (ns : List Nat) {fp : Env → Out (List Step)} (h : XP X cm a i fp) (h1 : DE X cm E0' true e fa) (hbase : attributeBase a "append" X.env (eval a X.env) = eval a X.env := by rfl)
    (hfew : ((backTo pos (starEach [e] X.env)).all (fun x => !x.1) && (backToKw pos (keywordEach [] X.env)).all (fun x => x.1.isSome) && decide ([e].length + ([] : List Keyword).length + (if ([] : List Keyword).isEmpty then 0 else 1) < 30)) = true := by rfl)
    (hline : (apos.endLine == pos.line) = true := by rfl) (hs : starEach [e] X.env = (false, eval e X.env) :: starEach [] X.env := by rfl) (hplain : (backTo pos (starEach [] X.env)).any (·.1) = false := by rfl) :
    XE X cm E (.Call (.Attribute a "append" apos) [e] [] pos) (sAppP i fp ns fa) := by
  obtain ⟨tp, p1, p2⟩ := h.ex
  obtain ⟨te, a1, a2⟩ := h1.ex
  refine ⟨_, pe_bm PySem.F.plainAttrs_list PySem.F.slot_list_append PySem.F.type_list_append mt_append p1 (pa_cons a1 pa_nil hs) hbase hfew hline hs hplain, fun W0 H σ r fps gd Q hp => ?_⟩
  unfold sAppP at hp
  split at hp
  · rename_i π d x h1 h2 h3
    split at hp
    · rename_i es0 d1 hg hd1
      split at hp
      · rename_i es hg1
        split at hp
        · rename_i hl
          obtain ⟨v0, q1, q2⟩ := gd.sl i d h2
          obtain ⟨_, hq⟩ := p2 W0 H σ r fps d v0 gd h2 q1 π h1
          refine hq _ fun H1 u e1 vp => ?_
          have g1 := gd.ex e1
          obtain ⟨u', _, _, _, k1, k2, _, _⟩ := q2.focus π hg
          cases vp.one (k1.ex e1)
          obtain ⟨pa, vs0, fe0, rfl, hpa0, _, _⟩ := k2.lstOf
          refine ⟨.inl ⟨rfl, _, SqL.of (e1 _ _ hpa0)⟩, ?_⟩
          refine a2 (Wr W0 fps ns) H1 σ (view ns r) (g1.wr ns) (g1.view ns) _ ?_
          rw [h3]
          intro v H2 fpv e2 rp fn
          obtain ⟨f2, g2, rp', hw, fm⟩ := g1.settle ns e2 (Reps.one rp) fn
          have hsx : shrs [x] = shr x := by simp [shrs]
          rw [hsx] at g2
          obtain ⟨pa2, vs, fe, m1, m2, m3, m4, m5, m6⟩ := mut_core g2 hw fn.1 ((Fram.of_ex (fps := fps) (fpv := []) e1 fun _ m => nomatch m).trans fm) q1 hd1 hg1
          cases m1.one (vp.ex e2)
          obtain ⟨fN, gN, fmN⟩ := m6 (Reps.app m3 (Reps.one rp'.the)) (fun a m => by simpa using m) (List.nodup_append.mpr ⟨m5, fn.1, fun a m b m' z => g2.nw i a (m4 a m) (.inr (z ▸ m'))⟩)
          refine ⟨pa, vs, v, rfl, rfl, m2, Nat.lt_of_lt_of_le (show vs.length < 1000000 by rw [m3.len]; exact hl) (by decide), ?_⟩
          exact hp .non _ fN [] (by rw [wp_nil]; exact gN) .non List.nodup_nil (fun _ m => (nomatch m)) fmN
        · exact hp.elim
      · exact hp.elim
    · exact hp.elim
  · exact hp.elim
end
end DL

namespace DL
variable [Tbs]
open PySem L2
section
variable {X : Cx} {cm : Cm} {E : XS} {b : Bool} {pos p apos : Pos} {ks : Nat → Bool} {a c e o : Expr} {es : List Expr} {fa : F}
/-! ### e.clear() -/
def sClrP (i : Nat) (fp : Env → Out (List Step)) : FX := fun r => match fp r, r[i]? with
  | .ok π, some (some d) => match getP π d with
    | some (.lst true _) => .ok (.non, r.set i (some (setP π (.lst true []) d)))
    | _ => .bad
  | _, _ => .bad
theorem xe_clrP (i : Nat) {fp : Env → Out (List Step)} (h : XP X cm a i fp) (hbase : attributeBase a "clear" X.env (eval a X.env) = eval a X.env := by rfl) (hline : (apos.endLine == pos.line) = true := by rfl) : XE X cm E (.Call (.Attribute a "clear" apos) [] [] pos) (sClrP i fp) := by
  obtain ⟨tp, p1, p2⟩ := h.ex
  refine ⟨_, pe_bm0 PySem.F.plainAttrs_list PySem.F.slot_list_clear PySem.F.type_list_clear mt_clear p1 hbase hline, fun W0 H σ r fps gd Q hp => ?_⟩
  unfold sClrP at hp
  split at hp
  · rename_i π d h1 h2
    split at hp
    · rename_i es hg
      obtain ⟨v0, q1, q2⟩ := gd.sl i d h2
      obtain ⟨_, hq⟩ := p2 W0 H σ r fps d v0 gd h2 q1 π h1
      refine hq _ fun H1 u e1 vp => ?_
      have g1 := gd.ex e1
      obtain ⟨pa2, vs, fe, m1, m2, m3, m4, m5, m6⟩ := mut_core (p1 := []) (by rw [wp_nil]; exact g1) (fun _ m => nomatch m) List.nodup_nil (Fram.of_ex (fps := fps) (fpv := []) e1 fun _ m => nomatch m) q1 h2 hg
      cases m1.one vp
      obtain ⟨fN, gN, fmN⟩ := m6 .nil (fun _ m => nomatch m) List.nodup_nil
      refine ⟨.inl ⟨rfl, _, SqL.of m2⟩, _, _, rfl, rfl, m2, ?_⟩
      exact hp .non _ fN [] (by rw [wp_nil]; exact gN) .non List.nodup_nil (fun _ m => (nomatch m)) fmN
    · exact hp.elim
  · exact hp.elim
/-! ### e.extend(x), x a list without effect -/
def sExtP (i : Nat) (fp : Env → Out (List Step)) (ns : List Nat) (f : F) : FX := fun r => match fp r, r[i]?, f (view ns r) with
  | .ok π, some (some d), .ok (.lst true xs) => match getP π d, (if shrs xs = true then frzN ns r else r)[i]? with
    | some (.lst true _), some (some d1) => match getP π d1 with
      | some (.lst true es) => if es.length + xs.length ≤ 1000000 then .ok (.non, (if shrs xs = true then frzN ns r else r).set i (some (setP π (.lst true (es ++ xs)) d1))) else .bad
      | _ => .bad
    | _, _ => .bad
  | _, _, _ => .bad
theorem xe_extP (i : Nat) (ns : List Nat) {fp : Env → Out (List Step)} (h : XP X cm a i fp) (h1 : DE X cm E0' true e fa) (hbase : attributeBase a "extend" X.env (eval a X.env) = eval a X.env := by rfl)
    (hfew : ((backTo pos (starEach [e] X.env)).all (fun x => !x.1) && (backToKw pos (keywordEach [] X.env)).all (fun x => x.1.isSome) && decide ([e].length + ([] : List Keyword).length + (if ([] : List Keyword).isEmpty then 0 else 1) < 30)) = true := by rfl)
    (hline : (apos.endLine == pos.line) = true := by rfl) (hs : starEach [e] X.env = (false, eval e X.env) :: starEach [] X.env := by rfl) (hplain : (backTo pos (starEach [] X.env)).any (·.1) = false := by rfl) :
    XE X cm E (.Call (.Attribute a "extend" apos) [e] [] pos) (sExtP i fp ns fa) := by
  obtain ⟨tp, p1, p2⟩ := h.ex
  obtain ⟨te, a1, a2⟩ := h1.ex
  refine ⟨_, pe_bm PySem.F.plainAttrs_list PySem.F.slot_list_extend PySem.F.type_list_extend mt_extend p1 (pa_cons a1 pa_nil hs) hbase hfew hline hs hplain, fun W0 H σ r fps gd Q hp => ?_⟩
  unfold sExtP at hp
  split at hp
  · rename_i π d xs h1 h2 h3
    split at hp
    · rename_i es0 d1 hg hd1
      split at hp
      · rename_i es hg1
        split at hp
        · rename_i hl
          obtain ⟨v0, q1, q2⟩ := gd.sl i d h2
          obtain ⟨_, hq⟩ := p2 W0 H σ r fps d v0 gd h2 q1 π h1
          refine hq _ fun H1 u e1 vp => ?_
          have g1 := gd.ex e1
          obtain ⟨u', _, _, _, k1, k2, _, _⟩ := q2.focus π hg
          cases vp.one (k1.ex e1)
          obtain ⟨pa, vs0, fe0, rfl, hpa0, _, _⟩ := k2.lstOf
          refine ⟨.inl ⟨rfl, _, SqL.of (e1 _ _ hpa0)⟩, ?_⟩
          refine a2 (Wr W0 fps ns) H1 σ (view ns r) (g1.wr ns) (g1.view ns) _ ?_
          rw [h3]
          intro v H2 fpv e2 rp fn
          obtain ⟨f2, g2, rp', hw, fm⟩ := g1.settle ns e2 (Reps.one rp) fn
          have hsx : shrs [D.lst true xs] = shrs xs := by simp [shrs, shr]
          rw [hsx] at g2
          obtain ⟨pb, zs, fz, rfl, hpb, rfl, hrz⟩ := rp'.the.lstOf
          obtain ⟨pa2, vs, fe, m1, m2, m3, m4, m5, m6⟩ := mut_core g2 hw fn.1 ((Fram.of_ex (fps := fps) (fpv := []) e1 fun _ m => nomatch m).trans fm) q1 hd1 hg1
          cases m1.one (vp.ex e2)
          have nz := List.nodup_cons.mp fn.1
          obtain ⟨fN, gN, fmN⟩ := m6 (Reps.app m3 hrz) (fun a m => (List.mem_append.mp m).imp id (List.mem_cons_of_mem _)) (List.nodup_append.mpr ⟨m5, nz.2, fun a m b m' z => g2.nw i a (m4 a m) (.inr (List.mem_cons_of_mem _ (z ▸ m')))⟩)
          refine ⟨pa, pb, vs, zs, rfl, rfl, m2, hpb, Nat.le_trans (show vs.length + zs.length ≤ 1000000 by rw [m3.len, hrz.len]; exact hl) (by decide), ?_⟩
          exact hp .non _ fN [] (by rw [wp_nil]; exact gN) .non List.nodup_nil (fun _ m => (nomatch m)) fmN
        · exact hp.elim
      · exact hp.elim
    · exact hp.elim
  · exact hp.elim
/-! ### sorted(x), x a list of texts -/
def leT (x y : List Nat) : Bool := !decide (y < x)
theorem leT_iff {x y : List Nat} : leT x y = true ↔ x ≤ y := by
  unfold leT
  rw [Bool.not_eq_true', decide_eq_false_iff_not]
  exact List.not_lt
theorem perm_sorted_eq : ∀ {l1 l2 : List (List Nat)}, l1.Perm l2 → l1.Pairwise (· ≤ ·) → l2.Pairwise (· ≤ ·) → l1 = l2
  | [], l2, h, _, _ => (List.nil_perm.mp h).symm
  | x :: l1, [], h, _, _ => absurd h.length_eq (by simp)
  | x :: l1, y :: l2, h, h1, h2 => by
    have a1 := List.pairwise_cons.mp h1
    have a2 := List.pairwise_cons.mp h2
    have hx : x ∈ y :: l2 := h.mem_iff.mp (List.mem_cons_self ..)
    have hy : y ∈ x :: l1 := h.mem_iff.mpr (List.mem_cons_self ..)
    have e : x = y := by
      rcases List.mem_cons.mp hx with e | m
      · exact e
      · rcases List.mem_cons.mp hy with e | m'
        · exact e.symm
        · exact List.le_antisymm (a1.1 y m') (a2.1 x m)
    subst e
    rw [perm_sorted_eq (List.Perm.cons_inv h) a1.2 a2.2]
def srtT (xs : List (List Nat)) : List (List Nat) := xs.mergeSort leT
theorem srtT_perm (xs : List (List Nat)) : (srtT xs).Perm xs := List.mergeSort_perm xs leT
theorem srtT_sorted (xs : List (List Nat)) : (srtT xs).Pairwise (· ≤ ·) := by
  have := List.pairwise_mergeSort (le := leT) (fun a b c h1 h2 => leT_iff.mpr (List.le_trans (leT_iff.mp h1) (leT_iff.mp h2))) (fun a b => by
    rw [Bool.or_eq_true, leT_iff, leT_iff]
    exact List.le_total a b) xs
  exact this.imp fun h => leT_iff.mp h
def gSrt : D → Out D
  | .lst _ xs => match strsD xs with
    | some ys => if ys.length < 64 then .ok (.lst true ((srtT ys).map .str)) else .bad
    | none => .bad
  | _ => .bad
theorem noEx_srt : ∀ a x r, gSrt a ≠ .exn x r := fun a x r h => by
  unfold gSrt at h
  split at h
  · split at h
    · split at h <;> cases h
    · cases h
  · cases h
theorem rising_pw : ∀ (p : Str) (l : List Str), PyProof.Rows.risingS p l = true → (p :: l).Pairwise (fun a b => a.cps.toList ≤ b.cps.toList)
  | p, [], _ => by simp
  | p, x :: l, h => by
    unfold PyProof.Rows.risingS at h
    rw [Bool.and_eq_true] at h
    have ih := rising_pw x l h.2
    have hpx : p.cps.toList ≤ x.cps.toList := by
      have := h.1
      rw [PyProof.Rows.ltCps_eq, Bool.not_eq_true', decide_eq_false_iff_not] at this
      exact List.not_lt.mp this
    refine List.pairwise_cons.mpr ⟨fun y m => ?_, ih⟩
    rcases List.mem_cons.mp m with rfl | m
    · exact hpx
    · exact List.le_trans hpx ((List.pairwise_cons.mp ih).1 y m)
theorem ra_srt : RA cm true (rSortedS X.K) (g1 gSrt) := fun W H vs ds w rs Q hp => by
  match ds, rs, hp with
  | [], _, hp => exact hp.elim
  | _ :: _ :: _, _, hp => exact hp.elim
  | [d], rs, hp =>
    generalize hf : ([] : List Addr) = fp at rs
    cases rs with
    | cons rx r0 =>
      obtain ⟨rfl, rfl⟩ := app_nil hf
      cases r0
      replace hp : Post (gSrt d) (QP cm W true H Q) noX := hp
      unfold gSrt at hp
      split at hp
      · rename_i o xs
        split at hp
        · rename_i ys hys
          split at hp
          · rename_i hl
            generalize hf : ([] : List Addr) = fp at rx
            cases rx with
            | lstO h r => cases hf
            | lstF h nw r =>
              refine ⟨_, ys.map fun y => ⟨y.toArray⟩, rfl, by rw [← strsD_reps r hys]; exact SqL.of h, by simpa using hl, fun zs p hz hs hp0 => ?_⟩
              have e1 : zs.map (fun s => s.cps.toList) = srtT ys := by
                refine perm_sorted_eq ?_ ?_ (srtT_sorted ys)
                · refine (hz.map _).trans ?_
                  rw [List.map_map]
                  have : (ys.map ((fun s : Str => s.cps.toList) ∘ fun y => (⟨y.toArray⟩ : Str))) = ys := by
                    conv => rhs; rw [← List.map_id ys]
                    exact List.map_congr_left fun y _ => by simp
                  rw [this]
                  exact (srtT_perm ys).symm
                · rw [List.pairwise_map]
                  cases zs with
                  | nil => exact List.Pairwise.nil
                  | cons z zs => exact rising_pw z zs hs
              have e2 : zs.map V.str = (srtT ys).map fun y => V.str ⟨y.toArray⟩ := by
                rw [← e1, List.map_map]
                exact List.map_congr_left fun s _ => by simp
              rw [e2]
              refine hp (.ref p) _ [p] (Ex.new hp0) (.lstO (fp := []) upd_same ?_) (fpN_new hp0)
              have : ∀ l : List (List Nat), Reps cm (Wp W [p]) (upd H p (.lst ((srtT ys).map fun y => V.str ⟨y.toArray⟩))) (l.map fun y => V.str ⟨y.toArray⟩) (l.map D.str) [] := by
                intro l
                induction l with
                | nil => exact .nil
                | cons y l ih => exact .cons (fp := []) (.str y) ih
              exact this _
          · exact hp.elim
        · exact hp.elim
      · exact hp.elim
theorem de_srt {fs : Env → Out (List D)} (hg : Gl X "sorted") (hm : X.mg "sorted" = none) (ha : DA X cm E false [e] fs) (hv : bootBuiltins "sorted" = some (.builtin "sorted") := by decide +kernel) (he : starEach [e] X.env = (false, eval e X.env) :: starEach [] X.env := by rfl) (hpl : (backTo pos (starEach [] X.env)).any (·.1) = false := by rfl) : DE X cm E true (.Call (.Name "sorted" p) [e] [] pos) (cA (g1 gSrt) fs) :=
  de_blt cr_sortedS ra_srt (noEx_g1 noEx_srt) hg hm hv ha (by decide) (by decide) he hpl
end
end DL

namespace DL
variable [Tbs]
open PySem L2
section
variable {X : Cx} {cm : Cm} {E : XS} {b : Bool} {pos p apos : Pos} {a c e o : Expr} {fa fb : F}
/-! ### a list of truths: count, index -/
def rCntV (K : PySem.W.Frag) : V → List V → Hp → VK → Prop := fun x xs H Q => ∃ (p : Addr) (ys : List V) (y : V), x = .ref p ∧ xs = [y] ∧ SqL K H p ys ∧ flatV y = true ∧ ys.all flatV = true ∧ Q (.int (ys.countP (fun z => eqV z y) : Nat)) H
theorem countP_vals {y : V} (ry : flatV y = true) : ∀ {ys : List V} {its : List Value}, Vals ys its → ys.all flatV = true → its.countP (eqU y) = ys.countP fun z => eqV z y
  | _, _, .nil, _ => rfl
  | z :: ys, u :: its, .cons h r, f => by
    rw [List.all_cons, Bool.and_eq_true] at f
    rw [List.countP_cons, List.countP_cons, countP_vals ry r f.2, eqU_of h f.1]
theorem mt_countV : MtR X "list.count" (rCntV X.K) := by
  intro pins s σ H x xs v us Q I rx rxs h
  obtain ⟨a, ys, y, rfl, rfl, hs, fy, fys, q⟩ := h
  cases rx
  cases rxs with
  | cons ry rt =>
    cases rt
    obtain ⟨its, rv, ⟨⟨cls, dd, data, sl⟩, n, ho, hc, hdn, hd⟩, hlen⟩ := I.list hs
    simp only at hc hd
    subst hc hd
    refine call_meets PySem.F.slot_list_count ⟨_, ho, rfl⟩ PySem.F.entry_list_count (PySem.F.args_list_count_2 _ _)
      (SeqAt.list_countAt a its.toArray n dd sl _ (eqU y)) ⟨ho, fun u' hu' => mem_eqAt ry fy rv fys u' (by simpa using hu'), ?_⟩
    refine ⟨.int (ys.countP (fun z => eqV z y) : Nat), H, I.tok _, ⟨s.toks, ?_⟩, q⟩
    rw [← countP_vals fy rv fys]
def gCntL : D → D → Out D := fun s l => match s, l with
  | .lst _ xs, .bl k => match blsD xs with
    | some bs => .ok (.int (bs.count k : Nat))
    | none => .bad
  | _, _ => .bad
def gIdxL : D → D → Out D := fun s l => match s, l with
  | .lst _ xs, .bl k => match blsD xs with
    | some bs => match bs.idxOf? k with
      | some j => .ok (.int (j : Nat))
      | none => .bad
    | none => .bad
  | _, _ => .bad
theorem noEx_cntL : NoEx gCntL := fun a b x r h => by
  unfold gCntL at h
  split at h
  · split at h <;> cases h
  · cases h
theorem noEx_idxL : NoEx gIdxL := fun a b x r h => by
  unfold gIdxL at h
  split at h
  · split at h
    · split at h <;> cases h
    · cases h
  · cases h
theorem all_bls (bs : List Bool) : (bs.map V.bl).all flatV = true := by
  rw [List.all_map, List.all_eq_true]
  exact fun _ _ => rfl
def isLstB : D → Bool
  | .lst _ _ => true
  | _ => false
def c2L (g : D → D → Out D) (fa fb : F) : F := fun r => (fa r).bind fun a => if isLstB a = true then (fb r).bind fun b => g a b else .bad
theorem de_l1 {id : String} {name : Str} {rr : V → List V → Hp → VK → Prop} {g : D → D → Out D} (slot : Slot "list" name id) (hty : typeOf (.builtin id) = pure (.type "method_descriptor")) (hm : MtR X id rr) (ho : ∀ W H x y dx dy, WOk cm W H → Rep cm W H x dx [] → Rep cm W H y dy [] → ∀ Q : VK, Post (g dx dy) (QP cm W b H Q) noX → rr x [y] H Q) (hn : NoEx g) (ha : DE X cm E false a fa) (hb : DE X cm E false c fb)
    (hbase : attributeBase a name X.env (eval a X.env) = eval a X.env := by rfl)
    (hfew : ((backTo pos (starEach [c] X.env)).all (fun x => !x.1) && (backToKw pos (keywordEach [] X.env)).all (fun x => x.1.isSome) && decide ([c].length + ([] : List Keyword).length + (if ([] : List Keyword).isEmpty then 0 else 1) < 30)) = true := by rfl)
    (hline : (apos.endLine == pos.line) = true := by rfl) (hs : starEach [c] X.env = (false, eval c X.env) :: starEach [] X.env := by rfl) (hplain : (backTo pos (starEach [] X.env)).any (·.1) = false := by rfl) :
    DE X cm E b (.Call (.Attribute a name apos) [c] [] pos) (c2L g fa fb) := by
  obtain ⟨ta, h1, h2⟩ := ha.ex
  obtain ⟨tb, h3, h4⟩ := hb.ex
  refine ⟨_, pe_bm PySem.F.plainAttrs_list slot hty hm h1 (pa_cons h3 pa_nil hs) hbase hfew hline hs hplain, fun W H σ env w fr Q hp => h2 W H σ env w fr _ (hp.bind.mono (fun d q v H1 fp e1 r1 f1 => ?_) fun _ _ z => z)⟩
  cases (show fp = [] from f1)
  split at q
  · rename_i hl
    cases d with
    | lst o xs =>
      have hex : ∃ pa vs, v = .ref pa ∧ H1 pa = some (.lst vs) := by
        generalize hf : ([] : List Addr) = fp at r1
        cases r1 with
        | lstO h r => cases hf
        | lstF h nw r => exact ⟨_, _, rfl, h⟩
      obtain ⟨pa, vs, rfl, hpa⟩ := hex
      refine ⟨.inl ⟨rfl, _, SqL.of hpa⟩, h4 W H1 σ env (w.ex e1) (fr.ex e1) _ (q.bind.mono (fun d2 q2 u H2 fp2 e2 r2 f2 => ?_) fun x rr z => XPost.ex e1 z)⟩
      cases (show fp2 = [] from f2)
      exact ho W H2 _ u _ d2 ((w.ex e1).ex e2) (r1.ex e2).ofP r2.ofP Q (Post.noX (q2.mono (fun d q3 z H3 fp3 e3 r3 f3 => q3 z H3 fp3 ((e1.trans e2).trans e3) r3 (f3.ex (e1.trans e2))) fun _ _ z => z) (hn _ d2))
    | _ => cases hl
  · exact q.elim
theorem lst_sq {W : Addr → Prop} {H : Hp} {v : V} {o : Bool} {xs : List D} (r : Rep cm W H v (.lst o xs) []) : ∃ pa vs, v = .ref pa ∧ H pa = some (.lst vs) ∧ Reps cm W H vs xs [] := by
  generalize hf : ([] : List Addr) = fp at r
  cases r with
  | lstO h r => cases hf
  | lstF h nw r => exact ⟨_, _, rfl, h, r⟩
theorem de_cntL (ha : DE X cm E false a fa) (hb : DE X cm E false c fb) (hbase : attributeBase a "count" X.env (eval a X.env) = eval a X.env := by rfl)
    (hfew : ((backTo pos (starEach [c] X.env)).all (fun x => !x.1) && (backToKw pos (keywordEach [] X.env)).all (fun x => x.1.isSome) && decide ([c].length + ([] : List Keyword).length + (if ([] : List Keyword).isEmpty then 0 else 1) < 30)) = true := by rfl)
    (hline : (apos.endLine == pos.line) = true := by rfl) (hs : starEach [c] X.env = (false, eval c X.env) :: starEach [] X.env := by rfl) (hplain : (backTo pos (starEach [] X.env)).any (·.1) = false := by rfl) :
    DE X cm E b (.Call (.Attribute a "count" apos) [c] [] pos) (c2L gCntL fa fb) :=
  de_l1 PySem.F.slot_list_count PySem.F.type_list_count mt_countV (fun W H x y dx dy w rx ry Q hp => by
    unfold gCntL at hp
    split at hp
    · rename_i o xs k
      split at hp
      · rename_i bs hbs
        obtain ⟨pa, vs, rfl, hpa, rs⟩ := lst_sq rx
        cases ry
        have e := blsD_reps rs hbs
        subst e
        refine ⟨pa, _, .bl k, rfl, rfl, SqL.of hpa, rfl, all_bls bs, ?_⟩
        have e2 : (bs.map V.bl).countP (fun z => eqV z (.bl k)) = bs.count k := by
          rw [List.countP_map]
          rfl
        rw [e2]
        exact hp (.int _) H [] (Ex.refl H) (.int _) FpN.nil
      · exact hp.elim
    · exact hp.elim) noEx_cntL ha hb hbase hfew hline hs hplain
theorem de_idxL (ha : DE X cm E false a fa) (hb : DE X cm E false c fb) (hbase : attributeBase a "index" X.env (eval a X.env) = eval a X.env := by rfl)
    (hfew : ((backTo pos (starEach [c] X.env)).all (fun x => !x.1) && (backToKw pos (keywordEach [] X.env)).all (fun x => x.1.isSome) && decide ([c].length + ([] : List Keyword).length + (if ([] : List Keyword).isEmpty then 0 else 1) < 30)) = true := by rfl)
    (hline : (apos.endLine == pos.line) = true := by rfl) (hs : starEach [c] X.env = (false, eval c X.env) :: starEach [] X.env := by rfl) (hplain : (backTo pos (starEach [] X.env)).any (·.1) = false := by rfl) :
    DE X cm E b (.Call (.Attribute a "index" apos) [c] [] pos) (c2L gIdxL fa fb) :=
  de_l1 PySem.F.slot_list_index PySem.F.type_list_index mt_index (fun W H x y dx dy w rx ry Q hp => by
    unfold gIdxL at hp
    split at hp
    · rename_i o xs k
      split at hp
      · rename_i bs hbs
        split at hp
        · rename_i j hj
          obtain ⟨pa, vs, rfl, hpa, rs⟩ := lst_sq rx
          cases ry
          have e := blsD_reps rs hbs
          subst e
          have hj' := List.idxOf?_eq_some_iff.mp hj
          obtain ⟨hjl, hje, hjn⟩ := hj'
          refine ⟨pa, _, .bl k, j, .bl bs[j], rfl, rfl, SqL.of hpa, rfl, all_bls bs, by simp [hjl], by simpa [eqV] using hje, fun m z' hm hz' => ?_, hp (.int _) H [] (Ex.refl H) (.int _) FpN.nil⟩
          rw [List.getElem?_map] at hz'
          obtain ⟨b', hb', rfl⟩ := Option.map_eq_some_iff.mp hz'
          obtain ⟨hml, rfl⟩ := List.getElem?_eq_some_iff.mp hb'
          have := hjn m hm
          simpa [eqV] using this
        · exact hp.elim
      · exact hp.elim
    · exact hp.elim) noEx_idxL ha hb hbase hfew hline hs hplain
end
end DL

namespace DL
variable [Tbs]
open PySem L2
section
variable {X : Cx} {cm : Cm} {E : XS} {b : Bool} {pos p apos : Pos} {a c e o : Expr} {fa fb : F}
/-- a + c, two new lists that none else holds: what is in them stays one's own -/
def cCatN (fa fb : F) : F := fun r => (fa r).bind fun x => (fb r).bind fun y => match x, y with
  | .lst true xs, .lst true ys => if xs.length + ys.length ≤ 1000000 then .ok (.lst true (xs ++ ys)) else .bad
  | _, _ => .bad
theorem de_catN (ha : DE X cm E true a fa) (hb : DE X cm E true c fb) : DE X cm E true (.BinOp a .Add c pos) (cCatN fa fb) := by
  obtain ⟨ta, h1, h2⟩ := ha.ex
  obtain ⟨tb, h3, h4⟩ := hb.ex
  refine ⟨_, pe_op op_cat h1 h3, fun W H σ r w fr Q hp => h2 W H σ r w fr _ (hp.bind.mono (fun d q v H1 fp e1 r1 f1 => ?_) fun _ _ z => z)⟩
  have own1 : ∀ x ∈ fp, MutAt H1 x := fun x m => r1.own x m
  refine h4 (Wp W fp) H1 σ r (WOk.p (cm := cm) (w.ex e1) own1) (fr.p e1 f1.2) _ (q.bind.mono (fun d2 q2 u H2 fp2 e2 r2 f2 => ?_) fun x rr z H' dx e2 xr => z H' dx (e1.trans e2) (xr.weak fun a z => .inl z))
  split at q2
  · rename_i xs ys
    split at q2
    · rename_i hl
      obtain ⟨pa, vs, fe, rfl, hpa, rfl, hr⟩ := r1.lstOf
      obtain ⟨pb, us, fe2, rfl, hpb, rfl, hr2⟩ := r2.lstOf
      have n1 := List.nodup_cons.mp f1.1
      have n2 := List.nodup_cons.mp f2.1
      have hpa2 := e2 _ _ hpa
      have hne : ∀ x ∈ fe, x ∉ fe2 := fun x m m' => (hr.own x m).there (f2.2 x (List.mem_cons_of_mem _ m'))
      refine ⟨_, _, _, _, rfl, rfl, hpa2, hpb, Nat.le_trans (show vs.length + us.length ≤ 1000000 by rw [hr.len, hr2.len]; exact hl) (by decide), fun l hl0 => ?_⟩
      refine q2 (.ref l) _ (l :: (fe ++ fe2)) (e1.trans (e2.trans (Ex.new hl0))) (.lstO upd_same (Reps.app (hr.move (fun x z => ?_) fun x o' q' t' _ => ?_) (hr2.move (fun x z => ?_) fun x o' q' t' _ => ?_))) ⟨List.nodup_cons.mpr ⟨fun m => ?_, List.nodup_append.mpr ⟨n1.2, n2.2, fun x m y m' z => hne x m (z ▸ m')⟩⟩, fun x m => ?_⟩
      · rcases z with z | z
        · exact .inl (.inl z)
        · rcases List.mem_cons.mp z with rfl | z
          · exact .inr (e2.back hl0)
          · rcases List.mem_append.mp z with z | z
            · exact .inl (.inr (List.mem_cons_of_mem _ z))
            · exact .inr (f2.2 x (List.mem_cons_of_mem _ z))
      · rw [upd_ne (ne_of_none (e2.get _ _ q' t') hl0)]; exact e2.get _ _ q' t'
      · rcases z with z | z
        · exact .inl (.inl (.inl z))
        · rcases List.mem_cons.mp z with rfl | z
          · exact .inr hl0
          · rcases List.mem_append.mp z with z | z
            · exact .inl (.inl (.inr (List.mem_cons_of_mem _ z)))
            · exact .inl (.inr (List.mem_cons_of_mem _ z))
      · rw [upd_ne (ne_of_none q' hl0)]; exact q'
      · rcases List.mem_append.mp m with m | m
        · obtain ⟨o', h', _⟩ := (hr.own l m).ex e2
          rw [hl0] at h'; cases h'
        · obtain ⟨o', h', _⟩ := hr2.own l m
          rw [hl0] at h'; cases h'
      · rcases List.mem_cons.mp m with rfl | m
        · exact e1.back (e2.back hl0)
        · rcases List.mem_append.mp m with m | m
          · exact f1.2 x (List.mem_cons_of_mem _ m)
          · exact e1.back (f2.2 x (List.mem_cons_of_mem _ m))
    · exact q2.elim
  · exact q2.elim
end
end DL

namespace DL
variable [Tbs]
open PySem L2
open PyProof.Rows (envOfC)
open LamX (CodeO TabB LamS lamEnv lamCx)
/-! ### a lambda without parameters, handed to a def that calls it within try -/
/-- the name of the code objects of X's lambdas -/
abbrev lamQ (X : Cx) : Str := X.env.qual ++ "<lambda>"
theorem nTb {c : Addr} {q : Str} : isTb (CodeO c q) = false := isTb_no fun ps => LamX.codeO_ne ps
/-- the maker: its code object, its table -/
structure LamB (mg : Str → Option Value) (base : Heap) (cd : Value) (q : Str) : Prop where
  ex : ∃ c P, cd = .ref c ∧ TabB base mg c P ∧ (P, q) ∈ Tbs.T ∧ ∀ p ∈ Tbs.T, p.1 = P → p.2 = q
theorem lam_mk {X : Cx} {pins : List (Addr × Obj)} {σ : St} {H : Hp} {s : Shared} {par : Arguments} {bd : Expr} {sc : Scope} {ps : Pos} {F G : Value → Shared → Prop} (J : Inv X pins σ H s) (B : LamB X.mg X.base X.env.code (lamQ X)) (tH : LamX.Tabs Tbs.T H)
    (dz : defaultsOf par X.env = ([], [])) (fz : ∀ z ∈ sc.names, z.2 = .free → ∃ u, X.env.cells.lookup z.1 = some u)
    (k : ∀ (f d : Addr) (pm ct : Value) (H1 : Hp) (s1 : Shared), Inv X pins σ H1 s1 → Ex H H1 →
      s1.heap.get? f = some (PySem.W.kla_obj "<lambda>" (lamQ X) par bd sc (cloFrom X.env.cells sc.names []) pm d ct) → H1 f = none → f ∉ frs X.stack → H1 d = some (CodeO d (lamQ X)) → F (.ref f) s1) :
    wpAny (model X.prog X.w) X.A (eval (.Lambda par bd sc ps) X.env) F G s := by
  obtain ⟨c, P, hcd, TB, mT, uT⟩ := B.ex
  obtain ⟨tb, e1, e2, e3⟩ := tH _ mT
  apply PySem.W.kla_eval dz
  have g1 : s.heap.BuiltinsAt X.mg P := TB.bm.keeps J.bk
  have g2 : s.heap.get? P = some { cls := .none, data := .fields tb } := J.hok P _ e1
  have nf : ∀ f : Addr, s.heap.objs.size ≤ f → f ∉ frs X.stack := by
    intro f hf m
    rcases List.mem_cons.mp (J.stkSub _ m) with z | z
    · have lt := J.lt
      rw [← z] at lt
      exact absurd lt (Nat.not_lt.mpr hf)
    · exact J.nofs hf z
  cases am : codeAmong ps tb.toList with
  | some u =>
    obtain ⟨d, rfl, e4⟩ := e3 ps u am
    apply PySem.W.kla_makeFunctionHit (mg := X.mg) (c := c) (P := P) (ps := tb) (closure_ok fz) J.ok.glob (J.mod.glob.keeps J.bk) hcd (TB.code.keeps J.bk) g2 e2 am g1
    intro ct h1 tk q1 q2
    exact k _ d _ ct H _ (J.kept fun b o z => Heap.get?_push_of_some _ (q1 b o z)) (Ex.refl H) (Heap.get?_push_size _ rfl) (J.hok.fresh q2) (nf _ q2) e4
  | none =>
    apply PySem.W.kla_makeFunction (mg := X.mg) (c := c) (P := P) (ps := tb) (closure_ok fz) J.ok.glob (J.mod.glob.keeps J.bk) hcd (TB.code.keeps J.bk) g2 e2 am TB.gP g1
    intro d ct h1 tk q1 q2 q3 q4 q5
    obtain ⟨d', oc, us, t, ed, q6, q7, q8⟩ := q4
    cases ed
    have sz : s.heap.objs.size ≤ h1.objs.size := Nat.le_trans q2 (Nat.le_of_lt q3)
    have nD : H d = none := J.hok.fresh q2
    have J1 := LamX.inv_table (t' := tk) (more := #[rawInt ps.line, rawInt ps.col, .ref d]) (h' := h1.push (PySem.W.kla_obj "<lambda>" (lamQ X) par bd sc (cloFrom X.env.cells sc.names []) ((X.mg "__name__").getD .none) d ct)) J e1
      (fun b o hb z => Heap.get?_push_of_some _ (q1 b o hb z)) (Heap.get?_push_of_some _ q5) q2 ⟨oc, us, t, Heap.get?_push_of_some _ q6, q7, q8⟩
    have at0 : ∀ b o, H b = some o → b ≠ P → upd (upd H P (.tbl (tb ++ #[rawInt ps.line, rawInt ps.col, .ref d]))) d (CodeO d (lamQ X)) b = some o := fun b o z n => by
      rw [upd_ne (ne_of_none z nD), upd_ne n]; exact z
    have atP : upd (upd H P (.tbl (tb ++ #[rawInt ps.line, rawInt ps.col, .ref d]))) d (CodeO d (lamQ X)) P = some (.tbl (tb ++ #[rawInt ps.line, rawInt ps.col, .ref d])) := by
      rw [upd_ne (ne_of_none e1 nD), upd_same]
    have noP : ∀ b o, H b = some o → isTb o = false → b ≠ P := fun b o z n y => by
      rw [y, e1] at z
      cases z
      cases n
    have code : ∀ (a : Addr) (q : Str), H a = some (CodeO a q) → upd (upd H P (.tbl (tb ++ #[rawInt ps.line, rawInt ps.col, .ref d]))) d (CodeO d (lamQ X)) a = some (CodeO a q) := fun a q z => at0 a _ z (noP a _ z nTb)
    have ex : Ex H (upd (upd H P (.tbl (tb ++ #[rawInt ps.line, rawInt ps.col, .ref d]))) d (CodeO d (lamQ X))) := by
      refine ⟨fun a o z n => at0 a o z (noP a o z n), fun a z => ?_, fun t0 p hp => ?_⟩
      · cases w : H a with
        | none => rfl
        | some o =>
          by_cases y : a = P
          · rw [y, atP] at z; cases z
          · rw [at0 a o w y] at z; cases z
      · by_cases y : p.1 = P
        · rw [uT p hp y, y]
          refine ⟨_, atP, ?_, fun p' cv z => ?_⟩
          · have : (tb ++ #[rawInt ps.line, rawInt ps.col, .ref d]).toList = tb.toList ++ [rawInt ps.line, rawInt ps.col, .ref d] := by simp
            rw [this]
            exact PySem.TriplesOk_snoc _ _ _ _ e2
          · have : (tb ++ #[rawInt ps.line, rawInt ps.col, .ref d]).toList = tb.toList ++ [rawInt ps.line, rawInt ps.col, .ref d] := by simp
            rw [this] at z
            rcases LamX.among_app _ e2 z with z | z
            · obtain ⟨a, y1, y2⟩ := e3 p' cv z
              exact ⟨a, y1, code a _ y2⟩
            · exact ⟨d, z, upd_same⟩
        · obtain ⟨tb', a1, a2, a3⟩ := t0 p hp
          refine ⟨tb', at0 _ _ a1 y, a2, fun p' cv z => ?_⟩
          obtain ⟨a, y1, y2⟩ := a3 p' cv z
          exact ⟨a, y1, code a _ y2⟩
    refine k h1.objs.size d _ ct _ _ J1 ex (Heap.get?_push_size _ rfl) ?_ (nf _ sz) upd_same
    have n1 : h1.objs.size ≠ d := Nat.ne_of_gt q3
    have n2 : h1.objs.size ≠ P := Nat.ne_of_gt (Nat.lt_of_lt_of_le (Heap.lt_size g2) sz)
    rw [upd_ne n1, upd_ne n2]
    exact J.hok.fresh sz
/-- what the lambda at f does when it is called in the def that got it -/
def Acts (P : Program) (w : World) (K : PySem.W.Frag) (mg : Str → Option Value) (base : Heap) (A : Around) (outer : List PySem.Env) (s : Shared) (H : Hp) (f d : Addr) (q : Str) (j : Nat) (tl : XK → Hp → VK → Prop) : Prop :=
  ∀ (N : List Str) (x : Str) (sg : Scope) (g : Addr) (cdg : Value) (Eg : XK) (i : Nat) (a : Str) (pn : List (Addr × Obj)) (xe : Value → Shared → Prop) (E : XS) (p1 p2 : Pos), N[i]? = some a → Vis sg a → (a == ("__debug__" : Str)) = false → (a == ("__classdict__" : Str)) = false →
    RoomG (j + 1) (A.deeper (envOfC x sg s.heap.objs.size g cdg)) → TakesG ((cxB P w K mg base N x sg g cdg A outer s H Eg).tr pn xe) E →
    PE ((cxB P w K mg base N x sg g cdg A outer s H Eg).tr pn xe) (.Call (.Name a p1) [] [] p2) (fun σ H' Q => σ[i]? = some (some (.ref f)) ∧ H' d = some (CodeO d q) ∧ tl (E σ) H' Q)
theorem acts_mk {X : Cx} {pins : List (Addr × Obj)} {σ : St} {H : Hp} {s : Shared} {f d : Addr} {pm ct : Value} {par : Arguments} {bd : Expr} {sc : Scope} {j : Nat} {t : XK → TE}
    (J : Inv X pins σ H s) (L : LamS X.env.scope sc) (hf : s.heap.get? f = some (PySem.W.kla_obj "<lambda>" (lamQ X) par bd sc (cloFrom X.env.cells sc.names []) pm d ct)) (hn : H f = none) (hr : f ∉ frs X.stack)
    (bz : ∀ (q : Str) (cl : List (Str × Addr)) (pm cv ctv : Value), bindArgs (PySem.W.kla_fn "<lambda>" q par bd sc cl pm cv ctv) ⟨[], []⟩ = pure [])
    (hb : ∀ (A : Around) (outer : List PySem.Env) (s : Shared) (H : Hp) (E : XK), RoomG j (A.deeper (lamEnv X sc s.heap.objs.size f d)) → PE (lamCx X A outer s H E sc f d) bd (t E)) :
    Acts X.prog X.w X.K X.mg X.base X.A X.stack s H f d (lamQ X) j (fun E H' Q => t E σ H' Q) := by
  intro N x sg g cdg Eg i a pn xe E p1 p2 hN hv hd1 hd2 rm tk
  constructor
  rintro pinsZ sZ σZ HZ Q IZ ⟨z1, z2, z3⟩
  apply wpAny_Call_Name_kw
  apply thn ((pe_var (pos := p1) (i := i) hN hv hd1 hd2).run pinsZ sZ σZ HZ (fun v H1 => v = .ref f ∧ H1 = HZ) IZ ⟨.ref f, z1, rfl, rfl⟩)
  rintro u s1 ⟨v, H1, I1, r1, rfl, rfl⟩
  cases (show u = Value.ref f from r1)
  have of1 : s1.heap.get? f = some (PySem.W.kla_obj "<lambda>" (lamQ X) par bd sc (cloFrom X.env.cells sc.names []) pm d ct) := I1.base.keep f _ hf hn hr fun z => nomatch (show f ∈ ([] : List Addr) from z)
  apply PySem.W.callWith_F0 ⟨_, _, _, _, of1⟩
  obtain ⟨⟨oc, us, tt, k1, k2, k3⟩, _, _⟩ := I1.hok d _ z2
  have un : Un (frs X.stack) [] H H1 s.heap s1.heap := I1.base
  apply wpAny_call
  have pass : PassesAt (L2.CX X.prog X.w) ((cxB X.prog X.w X.K X.mg X.base N x sg g cdg X.A X.stack s H Eg).tr pn xe) σZ (E σZ) := passAt tk σZ
  refine codeAny_mono (R := CR (L2.CX X.prog X.w) (envOfC x sg s.heap.objs.size g cdg :: X.stack) X.prog X.w H1 s1 Q (E σZ)) ?_ ?_
  · apply PySem.W.kla_callFunE rm.rm.depth of1 rfl L.co L.gen rfl ⟨d, oc, us, tt, rfl, k1, k2, k3⟩
    rw [show ([] ++ [] : List Value) = [] from rfl, bz]
    apply wpAny_pure
    apply wpAny_newFunctionEnv (fun y hy => (L.own y hy).2) (fun y hy => absurd hy List.not_mem_nil) _ L.kind
    intro h₁ hns hsb
    refine ⟨I1.nolimit.fresh _ hsb, ?_⟩
    have kp : ∀ b o, s1.heap.get? b = some o → h₁.get? b = some o := fun b o e => hsb.extBut b o (Nat.ne_of_lt (Heap.lt_size e)) (Heap.get?_push_of_some _ e)
    have JL := LamX.lam_start2 (E := E σZ) (f := f) (c' := d) (tk := s1.toks + ([] : List (Str × Value)).length) J L I1.env0 rm.rm.hd un hns kp
    apply PySem.W.kla_codeExpr
    refine wpAny_mono ((hb _ _ s1 H1 (E σZ) (rm.down _)).run [] _ _ H1 Q JL z3) ?_ fun _ _ z => z
    rintro v' s' ⟨w', H', J', rv, q⟩
    exact ⟨w', H', J'.os, J'.bare, J'.base, J'.hok, rv, q⟩
  · intro r s' hq
    match r, hq with
    | .error e, hq => exact pass pinsZ H1 s1 e s' I1 hq
    | .ok (.ret u), hq => exact I1.after hq
/-- a def of one parameter that calls what it got -/
structure KindOk (P : Program) (w : World) (K : PySem.W.Frag) (mg : Str → Option Value) (base : Heap) (cm : Cm) (x : Str) (k : Nat) (m : Out D → Out D) : Prop where
  ex : ∃ g, mg x = some (.ref g) ∧ PySem.W.keepIn K (.ref g) = true ∧ ∀ (A : Around) (outer : List PySem.Env) (s : Shared) (H : Hp) (f d : Addr) (q : Str) (j : Nat) (tl : XK → Hp → VK → Prop) (o : Out D) (W : Addr → Prop) (Q : VK) (E : XK), k ≤ j + 2 → RoomG (j + 2) A → Env0 P w K mg base A outer s H → WOk cm W H →
    Acts P w K mg base A outer s H f d q j tl → H d = some (CodeO d q) → (∀ H', Ex H H' → ∀ (E : XK) (Q : VK), Post o (QP cm W true H' Q) (XPost cm E W H') → tl E H' Q) → Post (m o) (QP cm W true H Q) (XPost cm E W H) →
    codeAny (model P w) A (.call (.ref g) ⟨[.ref f], []⟩) (CR (L2.CX P w) outer P w H s Q E) s
/-- x(lambda: ..) -/
def cLam (m : Out D → Out D) (fb : F) : F := fun r => m (fb r)
theorem pxL {X : Cx} {A : Around} {outer : List PySem.Env} {s : Shared} {H : Hp} {E : XK} {sc : Scope} {f d : Addr} : PassG (lamCx X A outer s H E sc f d) (fun _ => E) :=
  fun σ => passAt (X := lamCx X A outer s H E sc f d) (W := fun cls d _ H => E cls d H) (takes_of rfl rfl rfl rfl) σ
theorem de_lam {X : Cx} {cm : Cm} {E : XS} {x : Str} {k : Nat} (j : Nat) {m : Out D → Out D} {fb : F} {par : Arguments} {bd : Expr} {sc : Scope} {p lp pos : Pos} (C : KindOk X.prog X.w X.K X.mg X.base cm x k m) (hr : RoomG (j + 2) X.A) (B : LamB X.mg X.base X.env.code (lamQ X)) (hx : PassG X E) (L : LamS X.env.scope sc)
    (hb : ∀ (A : Around) (outer : List PySem.Env) (s : Shared) (H : Hp) (E' : XK) (f d : Addr), RoomG j (A.deeper (lamEnv X sc s.heap.objs.size f d)) → DE (lamCx X A outer s H E' sc f d) cm (fun _ => E') true bd fb)
    (hk : k ≤ j + 2 := by decide) (hg : Gl X x := by rfl) (dz : defaultsOf par X.env = ([], []) := by rfl) (bz : ∀ (q : Str) (cl : List (Str × Addr)) (pm cv ctv : Value), bindArgs (PySem.W.kla_fn "<lambda>" q par bd sc cl pm cv ctv) ⟨[], []⟩ = pure [] := by intros; rfl) (hdb : (x == ("__debug__" : Str)) = false := by decide) :
    DE X cm E true (.Call (.Name x p) [.Lambda par bd sc lp] [] pos) (cLam m fb) := by
  obtain ⟨g, hm, hkp, run⟩ := C.ex
  refine ⟨fun σ H Q => ∃ W r, WOk cm W H ∧ FRep cm W H σ r ∧ Post (m (fb r)) (QP cm W true H Q) (XPost cm (E σ) W H), ⟨?_⟩, fun W H σ r w fr Q hp => ⟨W, r, w, fr, hp⟩⟩
  rintro pins s σ H Q I ⟨W, r, w, fr, hp⟩
  apply wpAny_Call_Name_kw
  refine ld_glob I hg hm ?_ hdb
  apply PySem.W.callWith_K (h₀ := X.base) I.ok.mod.kin hkp _ (by rfl) (by rfl)
  show wpAny _ _ (spliced ((false, eval (.Lambda par bd sc lp) X.env) :: backTo pos (starEach [] X.env))) _ _ s
  apply Calls.spliced_cons
  apply lam_mk I B w.2 dz (L.has I.ok)
  intro f d pm ct H1 s1 I1 e1 hf hn hfr hd
  apply Calls.spliced_nil
  refine ⟨I1.kIn, ?_⟩
  apply wpAny_call
  have acts : Acts X.prog X.w X.K X.mg X.base X.A X.stack s1 H1 f d (lamQ X) j (fun E' H' Q' => teOf cm (fun _ => E') true fb σ H' Q') := acts_mk I1 L hf hn hfr bz fun A outer s H E' rm => (hb A outer s H E' f d rm).pe
  refine codeAny_mono (run X.A X.stack s1 H1 f d (lamQ X) j _ (fb r) W Q (E σ) hk hr I1.env0 (w.ex e1) acts hd (fun H' e' E' Q' q => ⟨W, r, (w.ex e1).ex e', (fr.ex e1).ex e', q⟩) (hp.mono (fun d q v H' fp e' rp fn => q v H' fp (e1.trans e') rp (fn.ex e1)) fun x rr z => XPost.ex e1 z)) ?_
  intro res s' hq
  match res, hq with
  | .error e, hq => exact hx σ pins H1 s1 e s' I1 hq
  | .ok (.ret u), hq => exact I1.after hq
end DL

namespace DL
variable [Tbs]
open PySem L2
open PyProof.Rows (envOfC)
open LamX (CodeO TabB)
/-! ### def kind(call): .. try: call() except h as e: k = e .. -/
def finS : SO → Out D
  | .nx _ => .ok .non
  | .rt d _ => .ok d
  | .exn x _ => .exn x []
  | _ => .bad
/-- nothing stands in the slots, but None -/
def noV (r : Env) : Bool := r.all fun o => match o with
  | none => true
  | some .non => true
  | _ => false
theorem noV_at {r : Env} (h : noV r = true) {i : Nat} {d : D} (e : r[i]? = some (some d)) : d = .non := by
  have := List.all_eq_true.mp h _ (List.mem_of_getElem? e)
  cases d <;> first | rfl | cases this
def mKind (sub : Str → Option Bool) (N i j : Nat) (g0 g1 : FS) (o : Out D) : Out D := match g0 (List.replicate N none) with
  | .nx r1 => if noV r1 = true then (match o with
    | .ok _ => finS (g1 r1)
    | .exn x _ => match sub x.cls with
      | some true => if i < r1.length ∧ j < r1.length ∧ x.fs.length = x.ds.length then finS (g1 (((r1.set i none).set j (some (.exc x.cls x.fs x.ds))).set i none)) else .bad
      | _ => .bad
    | .bad => .bad) else .bad
  | _ => .bad
theorem fin_post {cm : Cm} {E : XK} {W : Addr → Prop} {H H1 : Hp} {σ : St} {f1 : Fps} {Q : VK} {o : SO} (fm : Fram H (fun _ => []) H1 f1 []) (hp : Post (finS o) (QP cm W true H Q) (XPost cm E W H)) : SPost cm (fun _ => E) W H1 σ f1 k0 { nx := fun _ H' => Q .non H', rt := Q } o := by
  cases o with
  | nx r => exact fun σ' H' fps' g' fm' k' => hp .non H' [] (ex_of_fram (fm.trans fm')) .non FpN.nil
  | rt d r =>
    intro v σ' H' fps' fpv g' rp' nd nw fm' k'
    have fm2 := fm.trans fm'
    refine hp v H' fpv (ex_of_fram fm2) (rp'.move (fun a z => .inl (.inl z)) fun _ _ q _ _ => q) ⟨nd, fun a m => ?_⟩
    rcases fm2.oldv a m with ⟨_, m⟩ | q
    · cases m
    · exact q
  | exn x r => exact fun σ' H' fps' dx g' fm' k' xr => hp H' dx (ex_of_fram (fm.trans fm')) (xr.weak fun a z => .inl z)
  | bk r => exact hp.elim
  | ct r => exact hp.elim
  | bad => exact hp.elim
/-- the code of a def is the one that it stands for -/
theorem Fun.cd {K : PySem.W.Frag} {x qual : Str} {st : Stmt} {f : Addr} {fd : FuncData} (F : Fun K x qual st f fd) : ∃ oc od kV doc pm an cdv ct osl, fd = PySem.W.fnOf x qual (defArgs st) (defBody st) (defScope st) .none kV doc pm an cdv ct ∧ fd.code = cdv ∧ K.lookup f = some ⟨oc, od, .func fd, osl⟩ ∧ PySem.W.codeIn K cdv qual = true := by
  obtain ⟨oc, od, kV, doc, pm, an, cdv, ct, osl, e, lk, hcd⟩ := F.ex
  exact ⟨oc, od, kV, doc, pm, an, cdv, ct, osl, e, by rw [e], lk, hcd⟩
theorem mk_kind {P : Program} {w : World} {K : PySem.W.Frag} {mg : Str → Option Value} {base : Heap} {cm : Cm} {x qual : Str} {st s0 : Stmt} {rest : List Stmt} {g : Addr} {fd : FuncData} {N : List Str} {kk : Nat} {g0 g1 : FS} {a h n k : Str} {i jj : Nat} {np pk pn pa pos' pos p1 p2 p3 : Pos} {sub : Str → Option Bool}
    (hq : K = cm.K) (F : Fun K x qual st g fd) (S : FnScope N [a] (defScope st)) (hm : mg x = some (.ref g)) (hb : Binds K fd [a] []) (hg : (defScope st).names.lookup h = some .globalImplicit) (hmh : mg h = some (.ref (cm.cl h))) (hsub : ∀ c b, sub c = some b → PySem.W.exmOne K (.ref (cm.cl c)) (.ref (cm.cl h)) = some b)
    (hB : defBody st = s0 :: .Try [.Expr (.Call (.Name a p1) [] [] p2) p3] [.ExceptHandler (some (.Name h np)) (some n) [.Assign [.Name k pk] (.Name n pn) pa] pos'] [] [] pos :: rest)
    (D0 : ∀ (cdv : Value) (A : Around) (outer : List PySem.Env) (s : Shared) (H : Hp) (E : XK), RoomG kk (A.deeper (envOfC qual (defScope st) s.heap.objs.size g cdv)) → DS (cxB P w K mg base N qual (defScope st) g cdv A outer s H E) cm (fun _ => E) k1 s0 g0)
    (D1 : ∀ (cdv : Value) (A : Around) (outer : List PySem.Env) (s : Shared) (H : Hp) (E : XK), RoomG kk (A.deeper (envOfC qual (defScope st) s.heap.objs.size g cdv)) → DSs (cxB P w K mg base N qual (defScope st) g cdv A outer s H E) cm (fun _ => E) k0 rest g1)
    (hij : i ≠ jj := by decide) (hi0 : i ≠ 0 := by decide) (hj0 : jj ≠ 0 := by decide) (hN : N.Nodup := by decide +kernel) (ha : N[0]? = some a := by rfl) (hi : N[i]? = some n := by rfl) (hj : N[jj]? = some k := by rfl) (hln : (defScope st).names.lookup n = some .local := by rfl) (hlk : (defScope st).names.lookup k = some .local := by rfl) (hva : Vis (defScope st) a := by first | exact .inl rfl | exact .inr (.inl rfl))
    (hdb : (h == ("__debug__" : Str)) = false := by decide) (hda : (a == ("__debug__" : Str)) = false := by decide) (hca : (a == ("__classdict__" : Str)) = false := by decide) (hdn : (n == ("__debug__" : Str)) = false := by decide) (hcn : (n == ("__classdict__" : Str)) = false := by decide)
    (hsx : ∀ env : PySem.Env, swapsWith (.Call (.Name a p1) [] [] p2) none p3.line env = pure false := by intro _; rfl) (hsw : ∀ env : PySem.Env, swapsWith (.Name n pn) (some (.Name k pk)) pa.line env = pure false := by intro _; rfl) :
    KindOk P w K mg base cm x (kk + 1) (mKind sub N.length i jj g0 g1) := by
  refine ⟨g, hm, F.kp, fun A outer s H f d q j tl o W Q E hk hr e0 wk acts hd htl hp => ?_⟩
  obtain ⟨oc, od, kV, doc, pm, an, cdv, ct, osl, rfl, lk, hcd⟩ := F.ex
  have kin : K.In s.heap := e0.mod.kin.keeps fun b o e => (e0.bs b o e).1
  have bt := hb s [.ref f] kin rfl
  refine LamX.run_ofS (N := N) (ps := [a]) (us := [.ref f]) (vs := [.ref f]) lk hcd S hr.rm e0 bt (.cons rfl .nil) rfl fun hr' => ?_
  have rG : RoomG (j + 1) (A.deeper (envOfC qual (defScope st) s.heap.objs.size g cdv)) := hr.down _
  have rk : RoomG kk (A.deeper (envOfC qual (defScope st) s.heap.objs.size g cdv)) := rG.mono (by omega)
  obtain ⟨ts0, a1, a2⟩ := (D0 cdv A outer s H E rk).ex
  have b1 := (D1 cdv A outer s H E rk).pss
  have hlN : 1 ≤ N.length := by
    have := ha
    cases N with
    | nil => cases this
    | cons _ _ => simp
  have ht := ps_tryKeep (X := cxB P w K mg base N qual (defScope st) g cdv A outer s H E) (c := .ref (cm.cl h)) (i := i) (Wout := fun cls dd _ H => E cls dd H) (pos := pos) (np := np) (pos' := pos')
    (tb := fun Wx => tDrop fun σ H' Q' => σ[0]? = some (some (.ref f)) ∧ H' d = some (CodeO d q) ∧ tl (fun cls dd H2 => Wx cls dd σ H2) H' Q') (ts := fun _ _ _ => tAsg (tVar i) (gName jj)) rfl rfl rfl hN hi hln ⟨hg, hdb, .inl hmh⟩ txB
    (fun Wx pn' xe t po => pss_one (ps_expr (acts N qual (defScope st) g cdv E 0 a pn' xe (fun σ cls dd H2 => Wx cls dd σ H2) p1 p2 ha hva hda hca rG t) (hsx _)))
    (fun a' oe cls dd pn' _ _ => pss_one (ps_set (i := jj) hN hj (.inl hlk) (pe_var (i := i) hi (.inl hln) hdn hcn) (hsw _) (.inr hlk)))
  rw [hB]
  refine ⟨_, pss_cons a1 (pss_cons ht b1), ?_⟩
  have gd0 : Good cm W H (L2.start N [.ref f]) (List.replicate N.length none) (fun _ => []) := by
    refine ⟨by unfold L2.start; simp; omega, wk, fun i d h => ?_, fun _ => List.nodup_nil, fun _ _ _ m => (nomatch m), fun _ _ m => (nomatch m), fun _ _ m => (nomatch m)⟩
    rw [List.getElem?_replicate] at h
    split at h <;> cases h
  refine a2 W H _ _ (fun _ => []) gd0 _ ?_
  unfold mKind at hp
  cases hr0 : g0 (List.replicate N.length none) with
  | nx r1 =>
    rw [hr0] at hp
    dsimp only at hp
    split at hp
    case isFalse => exact hp.elim
    rename_i hno
    intro σ1 H1 f1 gd1 fm1 k1'
    have s0e : σ1[0]? = some (some (.ref f)) := (k1'.2 0 rfl).trans (by simp [L2.start])
    have e1 := ex_of_fram fm1
    refine ⟨s0e, e1.get d _ hd nTb, htl H1 e1 _ _ ?_⟩
    have gd : ∀ H2, Ex H1 H2 → Good cm W H2 σ1 r1 (fun _ => []) := fun H2 e2 => by
      refine ⟨gd1.len, (wk.ex e1).ex e2, fun i d h => ?_, fun _ => List.nodup_nil, fun _ _ _ m => (nomatch m), fun _ _ m => (nomatch m), fun _ _ m => (nomatch m)⟩
      cases noV_at hno h
      obtain ⟨v, q1, q2⟩ := gd1.sl i _ h
      refine ⟨v, q1, ?_⟩
      generalize f1 i = fp at q2
      cases q2
      exact .non
    have fr : ∀ H2, Ex H1 H2 → Fram H (fun _ => []) H2 (fun _ => []) [] := fun H2 e2 => Fram.of_ex (e1.trans e2) fun _ m => nomatch m
    cases o with
    | ok v =>
      intro v' H2 fp e2 _ _
      exact ⟨W, r1, _, gd H2 e2, fin_post (fr H2 e2) hp⟩
    | bad => exact hp.elim
    | exn xx rr =>
      dsimp only at hp
      intro H2 dx e2 xr
      cases hb' : sub xx.cls with
      | none => rw [hb'] at hp; exact hp.elim
      | some b =>
        rw [hb'] at hp
        cases b with
        | false => exact hp.elim
        | true =>
          dsimp only at hp
          split at hp
          · rename_i hlen
            refine ⟨true, hsub _ _ hb', fun _ a' na => ?_, fun z => nomatch z⟩
            have li : i < σ1.length := by rw [gd1.len]; exact hlen.1
            refine ⟨.ref a', by simp [li], fun _ => ?_⟩
            have g2 := gd H2 e2
            have e3 : Ex H2 (upd H2 a' (ExK (.ref (cm.cl xx.cls)) dx a')) := Ex.new na
            have rp := XRep.kept g2 (xr.weak fun b z => z.resolve_right fun ⟨_, m⟩ => nomatch m) hlen.2.2 na
            have g3 := (g2.ex e3).clear i (some (.ref a'))
            have nil : (fun j : Nat => if j = i then ([] : List Addr) else []) = fun _ => [] := by funext j; split <;> rfl
            rw [nil] at g3
            have g4 := Good.put (fpv := []) (by rw [wp_nil]; exact g3) (by rw [wp_nil]; exact rp) List.nodup_nil (fun _ m => nomatch m) jj
            have nil2 : (fun j : Nat => if j = jj then ([] : List Addr) else []) = fun _ => [] := by funext j; split <;> rfl
            rw [nil2] at g4
            have g5 := g4.clear i none
            rw [nil] at g5
            exact ⟨W, _, _, g5, fin_post (fr _ (e2.trans e3)) hp⟩
          · exact hp.elim
  | rt d r' => rw [hr0] at hp; exact hp.elim
  | bk r' => rw [hr0] at hp; exact hp.elim
  | ct r' => rw [hr0] at hp; exact hp.elim
  | exn x r' => rw [hr0] at hp; exact hp.elim
  | bad => rw [hr0] at hp; exact hp.elim
end DL

set_option maxHeartbeats 4000000
namespace DL
section
variable [Tbs]
open PySem L2
open PyProof.Rows (envOfC)
/-! ### defs that make lambdas -/
theorem fn_pureL {P : Program} {w : World} {K : PySem.W.Frag} {mg : Str → Option Value} {base : Heap} {cm : Cm} {x qual q : Str} {st : Stmt} {f : Addr} {fd : FuncData} {N ps : List Str} {k : Nat} {g : FS} (F : Fun K x qual st f fd) (S : FnScope N ps (defScope st)) (B : LamB mg base fd.code q)
    (hb : ∀ (cdv : Value) (A : Around) (outer : List PySem.Env) (s : Shared) (H : Hp) (E : XK), LamB mg base cdv q → RoomG k (A.deeper (envOfC qual (defScope st) s.heap.objs.size f cdv)) → DSs (cxB P w K mg base N qual (defScope st) f cdv A outer s H E) cm (fun _ => E) k0 (defBody st) g) :
    FnG P w K mg base (k + 1) f fd ps (spP cm ps.length (runP ps.length N.length g)) := by
  refine fnE_ofc (toE F) S (fun vs H Q E h => ?_) (fun cdv ec A outer s H vs Q E hr h => ?_)
  · obtain ⟨W, ds, _, rp, hl, _⟩ := h
    rw [rp.len, hl]
  · obtain ⟨W, ds, w, rp, hl, hp⟩ := h
    obtain ⟨ts, h1, h2⟩ := (hb cdv A outer s H E (ec ▸ B) hr).ex
    refine ⟨ts, h1, h2 W H (L2.start N vs) _ _ (good_start N w rp) _ ?_⟩
    rw [hl]
    refine fin_post (Fram.refl H _) ?_
    unfold runP at hp
    rw [if_pos hl] at hp
    unfold finS
    exact hp
theorem mk_pureL {P : Program} {w : World} {K : PySem.W.Frag} {mg : Str → Option Value} {base : Heap} {cm : Cm} {x qual q : Str} {st : Stmt} {f : Addr} {fd : FuncData} {N ps : List Str} {k : Nat} {g : FS} (Fu : Fun K x qual st f fd) (S : FnScope N ps (defScope st)) (B : LamB mg base fd.code q) (hm : mg x = some (.ref f)) (hb : Binds K fd ps [])
    (hbody : ∀ (cdv : Value) (A : Around) (outer : List PySem.Env) (s : Shared) (H : Hp) (E : XK), LamB mg base cdv q → RoomG k (A.deeper (envOfC qual (defScope st) s.heap.objs.size f cdv)) → DSs (cxB P w K mg base N qual (defScope st) f cdv A outer s H E) cm (fun _ => E) k0 (defBody st) g) :
    CallOk P w K mg base x (k + 1) ps (spP cm ps.length (runP ps.length N.length g)) := ⟨f, fd, fn_pureL Fu S B hbody, hm, Fu.kp, hb⟩
/-- the tables of the law's makers: name of the def, code object, table -/
def tbOf (cs : List (Str × Addr × Addr)) : List (Addr × Str) := cs.map fun p => (p.2.2, p.1 ++ ".<locals>." ++ "<lambda>")
theorem lamB_mk {mg : Str → Option Value} {base : Heap} {cs : List (Str × Addr × Addr)} {x : Str} {c P : Addr} {cd : Value} (hT : Tbs.T = tbOf cs) (h : (x, c, P) ∈ cs) (B : ∀ p ∈ cs, LamX.TabB base mg p.2.1 p.2.2) (hc : cd = .ref c) (u : ∀ p ∈ cs, p.2.2 = P → p.1 = x) : LamB mg base cd (x ++ ".<locals>." ++ "<lambda>") := by
  refine ⟨c, P, hc, B _ h, ?_, fun p hp e => ?_⟩
  · rw [hT]
    exact List.mem_map.mpr ⟨_, h, rfl⟩
  · rw [hT] at hp
    obtain ⟨p', h1, rfl⟩ := List.mem_map.mp hp
    show p'.1 ++ _ ++ _ = _
    rw [u p' h1 e]
end
open PySem L2 PySem.Spec PyProof.Rows
/-! ### the end, with tables -/
def spLawT (K : PySem.W.Frag) (Ps : List Addr) : Sp := fun vs H Q _ => ∃ (a : Addr) (ns : List Int), vs = [.ref a] ∧ SqL K H a (ns.map V.int) ∧ ns.length ≤ 63 ∧ (∀ p ∈ Ps, H p = some (.tbl #[])) ∧ (∀ b, b ∉ Ps → H b = none ∨ ∃ o xs, H b = some (.frz o (.lst xs))) ∧ ∀ H', Q (.bl true) H'
theorem sp_lawT [Tbs] {cm : Cm} {m : List D → Out D} {Ps : List Addr} (h : ∀ ns : List Int, ns.length ≤ 63 → m [.scr ns] = .ok (.bl true)) (hT : ∀ p ∈ Tbs.T, p.1 ∈ Ps) : ∀ vs H Q E, spLawT cm.K Ps vs H Q E → spP cm 1 m vs H Q E := by
  rintro vs H Q E ⟨a, ns, rfl, hs, hl, ht, ho, k⟩
  have rp : Rep cm (fun _ => False) H (.ref a) (.scr ns) [] := by
    rcases hs with (hs | ⟨o, hs⟩) | hs
    · by_cases m : a ∈ Ps
      · rw [ht a m] at hs; cases hs
      · rcases ho a m with q | ⟨o, xs, q⟩ <;> (rw [hs] at q; cases q)
    · exact .scrF hs fun z => z
    · exact .scrK fun H' => .inr hs
  refine ⟨fun _ => False, [.scr ns], ⟨fun _ z => z.elim, fun p hp => LamX.TabS.nil (ht _ (hT p hp))⟩, Reps.one rp, rfl, ?_⟩
  rw [h ns hl]
  intro v H' fp e rv _
  cases rv
  exact k H'
/-- an object that no written thing is: a table -/
abbrev tabO (ps : Array Value) : Obj := { cls := .none, data := .fields ps }
theorem law_goT {P : Program} {w : World} {K : PySem.W.Frag} {mg mb : Str → Option Value} {k : Nat} {fa a : Addr} {cs : List (Addr × Addr)} {fd : FuncData} {x : Str} {s₁ : Shared} {vs : List Value} {ns : List Int} (hk : k ≤ 200)
    (kin : K.In s₁.heap) (hg : s₁.heap.Ns mainGlobals mg) (hb : s₁.heap.Ns builtinsNs mb) (hbb : ∀ x : Str, x ≠ "__name__" → mb x = bootBuiltins x) (hlim : s₁.heap.NoLimit) (gen0 : s₁.gens = #[])
    (tT : ∀ p ∈ cs, PySem.W.CodeHd s₁.heap p.1 p.2 ∧ s₁.heap.get? p.2 = some (tabO #[])) (nT : ∀ p ∈ cs, K.lookup p.2 = none)
    (bmn : ∃ bm ob, mg "__builtins__" = some (.ref bm) ∧ bm ≠ builtinsNs ∧ s₁.heap.get? bm = some ob ∧ ob.cls = .type "module" ∧ ob.dict = some builtinsNs ∧ ob.data = .plain)
    (ha : s₁.heap.get? a = some { cls := .type "list", data := .seq vs.toArray }) (hi : IntsAre vs ns) (hl : ns.length ≤ 63)
    (F : ∀ base : Heap, K.In base → base.Ns mainGlobals mg → (∀ p ∈ cs, LamX.TabB base mg p.1 p.2) → FnG P w K mg base k fa fd [x] (spLawT K (cs.map (·.2)))) (bind : ∀ (s : Shared) (u : Value), BindsTo s fd ⟨[u], []⟩ [(x, u)]) :
    codeAny (model P w) callerA (.call (.ref fa) ⟨[.ref a], []⟩) (fun r s' => r = .ok (.ret (.bool true)) ∧ OldK s₁.heap s'.heap ∧ s'.os = s₁.os ∧ AllBare s'.gens) s₁ := by
  have hz : ns.length ≤ sizeLine := Nat.le_trans hl (by decide)
  have rv := vals_ints hi
  have isP : ∀ b ∈ cs.map (·.2), s₁.heap.get? b = some (tabO #[]) := fun b m => by
    obtain ⟨p, hp, rfl⟩ := List.mem_map.mp m
    exact (tT p hp).2
  have inP : ∀ p ∈ cs, p.2 ∈ cs.map (·.2) := fun p hp => List.mem_map.mpr ⟨p, hp, rfl⟩
  have aP : a ∉ cs.map (·.2) := fun m => by
    have := isP a m
    rw [ha] at this
    cases this
  have main : ∀ H : Hp, (∀ b ∈ cs.map (·.2), H b = some (.tbl #[])) → (∀ b, b ∉ cs.map (·.2) → H b = none ∨ ∃ o xs, H b = some (.frz o (.lst xs))) → SqL K H a (ns.map V.int) → HOk P w H s₁.heap → (∀ b, b ∉ cs.map (·.2) → H b ≠ none → b = a ∧ K.lookup a = none) →
      codeAny (model P w) callerA (.call (.ref fa) ⟨[.ref a], []⟩) (fun r s' => r = .ok (.ret (.bool true)) ∧ OldK s₁.heap s'.heap ∧ s'.os = s₁.os ∧ AllBare s'.gens) s₁ := by
    intro H tb only sq hok one
    have nKP : ∀ b ∈ cs.map (·.2), K.lookup b = none := fun b m => by
      obtain ⟨p, hp, rfl⟩ := List.mem_map.mp m
      exact nT p hp
    have no : ∀ {b : Addr} {o : Obj}, s₁.heap.get? b = some o → o ≠ tabO #[] → o.cls ≠ .type "list" → H b = none := fun {b o} e h1 h2 => Classical.byContradiction fun z => by
      by_cases m : b ∈ cs.map (·.2)
      · rw [isP b m] at e
        cases e
        exact h1 rfl
      · obtain ⟨rfl, _⟩ := one b m z
        rw [ha] at e
        cases e
        exact h2 rfl
    have kinB : K.In (hidT s₁.heap H) := fun b o e => hidT_get (kin b o e) (Classical.byContradiction fun z => by
      by_cases m : b ∈ cs.map (·.2)
      · rw [nKP b m] at e; cases e
      · obtain ⟨rfl, q⟩ := one b m z
        rw [q] at e; cases e)
    have nD : ∀ {b : Addr} {o : Obj} {es : Array DictEntry} {ep : Nat}, s₁.heap.get? b = some o → o.data = .dict es ep → H b = none := fun {b o es ep} e d => Classical.byContradiction fun z => by
      by_cases m : b ∈ cs.map (·.2)
      · rw [isP b m] at e; cases e; cases d
      · obtain ⟨rfl, _⟩ := one b m z
        rw [ha] at e; cases e; cases d
    have nsB : ∀ {b : Addr} {m : Str → Option Value}, s₁.heap.Ns b m → (hidT s₁.heap H).Ns b m := by
      rintro b m ⟨o, es, ep, e, d, r⟩
      exact ⟨o, es, ep, hidT_get e (nD e d), d, r⟩
    have lim : (hidT s₁.heap H).NoLimit := by
      obtain ⟨mc, h1, h2⟩ := hlim
      exact ⟨mc, nsB h1, h2⟩
    have mod : Mod K mg (hidT s₁.heap H) := ⟨kinB, nsB hg, ⟨mb, nsB hb, hbb⟩, lim⟩
    have tabB : ∀ p ∈ cs, LamX.TabB (hidT s₁.heap H) mg p.1 p.2 := fun p hp => by
      obtain ⟨cd, ct⟩ := tT p hp
      refine ⟨?_, ?_, fun z => ?_⟩
      · obtain ⟨o, us, file, tf, flags, tg, inF, text, tt, e1, r1, r2, r3, rr⟩ := cd
        refine ⟨o, us, file, tf, flags, tg, inF, text, tt, hidT_get e1 (no e1 (fun z => ?_) fun z => ?_), r1, r2, r3, rr⟩
        · subst z
          cases r2
          cases r3
        · rw [r1] at z
          exact absurd z (by simp)
      · obtain ⟨bm, ob, b1, b2, b3, b4, b5, b6⟩ := bmn
        have e1 : bm ≠ mainGlobals := fun q => by
          obtain ⟨o, es, ep, e, hd, _⟩ := hg
          rw [q, e] at b3
          cases b3
          rw [hd] at b6
          cases b6
        have e2 : bm ≠ p.2 := fun q => by
          rw [q, ct] at b3
          cases b3
          cases b6
        refine ⟨bm, ob, b1, b2, e1, e2, hidT_get b3 (no b3 (fun z => ?_) fun z => ?_), b4, b5, b6⟩
        · subst z; cases b6
        · rw [b4] at z
          exact absurd z (by simp)
      · obtain ⟨o, es, ep, e, hd, _⟩ := hg
        rw [z, ct] at e
        cases e
        cases hd
    have e0 : Env0 P w K mg (hidT s₁.heap H) callerA [] s₁ H := ⟨rfl, mod, fun _ _ e => of_hidT e, Nat.le_of_eq (hidT_size _ _), trivial, fun _ z => absurd z List.not_mem_nil, hok, AllBare.of_eq gen0⟩
    refine codeAny_mono ((F _ kinB (nsB hg) tabB).go callerA [] s₁ H ⟨[.ref a], []⟩ [.ref a] [.ref a] (fun v _ => v = .bl true) (fun _ _ _ => False) ⟨⟨rfl, depth_ok hk, units_ok hk⟩, rfl⟩ e0 (bind s₁ (.ref a)) (.cons rfl .nil) ⟨a, ns, rfl, sq, hl, tb, only, fun _ => rfl⟩) ?_
    intro r s' h
    match r, h with
    | .error e, h =>
      obtain ⟨_, _, _, _, _, _, _, _, _, _, _, _, z⟩ := h
      exact z.elim
    | .ok (.ret u), ⟨v, H', os, bare, un, hok', r', q⟩ =>
      cases (show v = .bl true from q)
      cases (show u = Value.bool true from r')
      have old : ∀ b o, b ∉ cs.map (·.2) → s₁.heap.get? b = some o → s'.heap.get? b = some o := fun b o m e => by
        cases q : H b with
        | none => exact un.keep b o e q (fun z => absurd z List.not_mem_nil) (fun z => absurd z List.not_mem_nil)
        | some u =>
          rcases only b m with z | ⟨ob, xs, z⟩
          · rw [q] at z; cases z
          · have e1 := (hok b _ z).1
            have e2 := (hok' b _ (un.frzs b ob _ z)).1
            rw [e] at e1
            cases e1
            exact e2
      have new : ∀ b ∈ cs.map (·.2), ∃ more, s'.heap.get? b = some (tabO more) := fun b m => by
        obtain ⟨more, z⟩ := un.tbls b #[] (tb b m)
        exact ⟨_, hok' b _ z⟩
      refine ⟨rfl, ⟨fun b o e => ?_, fun b o e => ?_⟩, os, bare⟩
      · by_cases m : b ∈ cs.map (·.2)
        · obtain ⟨more, hm⟩ := new b m
          rw [isP b m] at e
          cases e
          obtain ⟨p, hp, rfl⟩ := List.mem_map.mp m
          refine .inr (.inl ⟨((tT p hp).1.tab (tT p hp).2).isCodeTable, rfl, #[], more, rfl, ?_⟩)
          rw [Array.empty_append]
          exact hm
        · exact .inl (old b o m e)
      · by_cases m : b ∈ cs.map (·.2)
        · obtain ⟨more, hm⟩ := new b m
          exact ⟨_, hm⟩
        · exact ⟨o, old b o m e⟩
  cases lk : K.lookup a with
  | some o =>
    have e := kin a o lk
    rw [ha] at e
    cases e
    refine main (fun b => if b ∈ cs.map (·.2) then some (.tbl #[]) else none) (fun b m => if_pos m) (fun b m => .inl (if_neg m)) (.inr ⟨_, vs.toArray, _, lk, rfl, rfl, rfl, ?_, ?_⟩) (fun b u z => ?_) (fun b m z => absurd (if_neg m) z)
    · rw [List.size_toArray, hi.length]; exact hz
    · simpa using rv
    · by_cases m : b ∈ cs.map (·.2)
      · cases (if_pos m).symm.trans z
        exact isP b m
      · cases (if_neg m).symm.trans z
  | none =>
    let o : Obj := { cls := .type "list", data := .seq vs.toArray }
    let H : Hp := fun b => if b ∈ cs.map (·.2) then some (.tbl #[]) else if b = a then some (.frz o (.lst (ns.map V.int))) else none
    have at1 : H a = some (.frz o (.lst (ns.map V.int))) := (if_neg aP).trans (if_pos rfl)
    refine main H (fun b m => if_pos m) (fun b m => ?_) (.inl (.inr ⟨o, at1⟩)) (fun b u z => ?_) (fun b m z => ?_)
    · by_cases q : b = a
      · exact .inr ⟨_, _, (if_neg m).trans (if_pos q)⟩
      · exact .inl ((if_neg m).trans (if_neg q))
    · by_cases m : b ∈ cs.map (·.2)
      · cases (if_pos m).symm.trans z
        exact isP b m
      · by_cases q : b = a
        · subst q
          rw [at1] at z
          cases z
          exact ⟨ha, by rw [List.length_map]; exact hz, vs, _, rv, ha⟩
        · exact nomatch ((if_neg m).trans (if_neg q)).symm.trans z
    · by_cases q : b = a
      · exact ⟨q, lk⟩
      · exact absurd ((if_neg m).trans (if_neg q)) z
theorem walk_lawT {l : PySem.W.OpenLaw} {q : Program} {loose : List Str} {XP : (Str → Option Value) → Heap → Prop} {YP : World → Heap → Prop} {d : DefRec} {K : Params → PySem.W.Frag} {k : Nat} {x : Str} (xs : List Str) (hk : k ≤ 200) (hn : l.most = some 63) (hdf : d.params.defaults = [])
    (hrec : xs.all (fun n => ((recsOf q).find? fun e => e.name == n).isSome) = true) (hY : ∀ (w : World) (h : Heap), YP w h → (K w.params).In h)
    (F : ∀ (w : World) (mg : Str → Option Value) (fa : Addr) (h : Heap), (K w.params).In h → h.Ns mainGlobals mg → mg d.name = some (.ref fa) →
      ∃ (cs : List (Str × Addr × Addr)) (fd : FuncData), (∀ p ∈ cs, p.1 ∈ xs ∧ PySem.W.tabIn (K w.params) p.1 = some p.2 ∧ (K w.params).lookup p.2.2 = none) ∧ (∀ (s : Shared) (u : Value), BindsTo s fd ⟨[u], []⟩ [(x, u)]) ∧
        ∀ base : Heap, (K w.params).In base → base.Ns mainGlobals mg → (∀ p ∈ cs, LamX.TabB base mg p.2.1 p.2.2) → FnG l.prog w (K w.params) mg base k fa fd [x] (spLawT (K w.params) (cs.map (·.2.2)))) :
    PySem.W.WalkO q loose XP YP l.row.toRowW d [] (fun f vs => PySem.call f vs) := by
  apply Att.attach_call hn hdf
  intro w s₀ s₁ mg mb fa o pm cd doc a vs ns G Y _ _ _ hmg hobj hints hlen hg
  have KX := hY w _ Y
  obtain ⟨cs, fd, hcs, b, f⟩ := F w mg fa _ KX G.T.g hmg
  have tb : ∀ p ∈ cs.map (·.2), PySem.W.CodeHd s₁.heap p.1 p.2 ∧ s₁.heap.get? p.2 = some (tabO #[]) := fun p hp => by
    obtain ⟨p', h1, rfl⟩ := List.mem_map.mp hp
    obtain ⟨y1, y2, y3⟩ := hcs p' h1
    obtain ⟨r, hr⟩ := Option.isSome_iff_exists.mp (List.all_eq_true.mp hrec _ y1)
    exact PySem.W.tab_of (c := p'.2.1) (P := p'.2.2) G.T KX hr y2
  refine law_goT (cs := cs.map (·.2)) hk KX G.T.g G.T.b G.T.builtins G.T.nolimit hg tb (fun p hp => ?_) G.T.bmain hobj hints hlen (fun base h1 h2 h3 => ?_) b
  · obtain ⟨p', h1, rfl⟩ := List.mem_map.mp hp
    exact (hcs p' h1).2.2
  · have := f base h1 h2 fun p hp => h3 _ (List.mem_map.mpr ⟨p, hp, rfl⟩)
    rw [List.map_map]
    exact this
end DL

namespace DL
open PySem L2
variable {X : Xc → Env → Prop}
/-! ### what functions over data yield -/
abbrev XF : Xc → Env → Prop := fun _ _ => False
def WO' {α : Type} (X : Xc → Env → Prop) (o : Out α) (P : α → Prop) : Prop := match o with
  | .ok a => P a
  | .exn x r => X x r
  | .bad => False
def WS' (X : Xc → Env → Prop) (o : SO) (N : Env → Prop) (R : D → Env → Prop) : Prop := match o with
  | .nx r => N r
  | .rt d r => R d r
  | .exn x r => X x r
  | _ => False
/-- a loop's body: on and on, or back -/
def WB' (X : Xc → Env → Prop) (o : SO) (N : Env → Prop) (B : Env → Prop) (R : D → Env → Prop) : Prop := match o with
  | .nx r => N r
  | .ct r => N r
  | .bk r => B r
  | .rt d r => R d r
  | .exn x r => X x r
  | _ => False
@[simp] theorem WO_ok {α : Type} {a : α} {P : α → Prop} : WO' X (.ok a) P ↔ P a := Iff.rfl
@[simp] theorem WO_bad {α : Type} {P : α → Prop} : WO' X (.bad : Out α) P ↔ False := Iff.rfl
@[simp] theorem WO_exn {α : Type} {x : Xc} {r : Env} {P : α → Prop} : WO' X (.exn x r : Out α) P ↔ X x r := Iff.rfl
@[simp] theorem WO_bind {α β : Type} {o : Out α} {f : α → Out β} {P : β → Prop} : WO' X (o.bind f) P ↔ WO' X o fun a => WO' X (f a) P := by cases o <;> exact Iff.rfl
@[simp] theorem WO_safe {α : Type} {o : Out α} {P : α → Prop} : WO' X (safe o) P ↔ WO' XF o P := by cases o <;> exact Iff.rfl
theorem WO'.mono {α : Type} {o : Out α} {P P' : α → Prop} (h : WO' X o P) (k : ∀ a, P a → P' a) : WO' X o P' := by
  cases o with
  | ok a => exact k a h
  | _ => exact h
theorem WO'.ok {α : Type} {o : Out α} {P : α → Prop} (h : WO' XF o P) : ∃ a, o = .ok a ∧ P a := by
  cases o with
  | ok a => exact ⟨a, rfl, h⟩
  | _ => exact h.elim
theorem WO'.eq {α : Type} {o : Out α} {a : α} (h : WO' XF o fun x => x = a) : o = .ok a := by
  obtain ⟨b, h1, h2⟩ := WO'.ok h
  rw [h1, h2]
theorem WO.eq {α : Type} {o : Out α} {a : α} (h : WO' XF o fun x => x = a) : o = .ok a := WO'.eq h
theorem WO'.raise {α : Type} {o : Out α} {x : Xc} (h : WO' (fun y _ => y = x) o fun _ => False) : ∃ r, o = .exn x r := by
  cases o with
  | ok a => exact h.elim
  | exn y r => exact ⟨r, by rw [show y = x from h]⟩
  | bad => exact h.elim
theorem WO'.up {α : Type} {o : Out α} {P : α → Prop} (h : WO' XF o P) : WO' X o P := by
  cases o with
  | ok a => exact h
  | _ => exact h.elim
@[simp] theorem WS_nx {r : Env} {N : Env → Prop} {R : D → Env → Prop} : WS' X (.nx r) N R ↔ N r := Iff.rfl
@[simp] theorem WS_rt {d : D} {r : Env} {N : Env → Prop} {R : D → Env → Prop} : WS' X (.rt d r) N R ↔ R d r := Iff.rfl
@[simp] theorem WS_exn {x : Xc} {r : Env} {N : Env → Prop} {R : D → Env → Prop} : WS' X (.exn x r) N R ↔ X x r := Iff.rfl
@[simp] theorem WS_bad {N : Env → Prop} {R : D → Env → Prop} : WS' X .bad N R ↔ False := Iff.rfl
theorem WS'.mono {o : SO} {N N' : Env → Prop} {R R' : D → Env → Prop} (h : WS' X o N R) (h1 : ∀ r, N r → N' r) (h2 : ∀ d r, R d r → R' d r) : WS' X o N' R' := by
  cases o with
  | nx r => exact h1 r h
  | rt d r => exact h2 d r h
  | _ => exact h
section
variable {r : Env} {N : Env → Prop} {R : D → Env → Prop} {f g : FS} {fx : FX} {P : D × Env → Prop}
@[simp] theorem WS_seq : WS' X (sSeq f g r) N R ↔ WS' X (f r) (fun r1 => WS' X (g r1) N R) R := by
  unfold sSeq
  cases f r <;> exact Iff.rfl
@[simp] theorem WS_next : WS' X (sNext r) N R ↔ N r := Iff.rfl
@[simp] theorem WS_ret : WS' X (sRet fx r) N R ↔ WO' X (fx r) fun p => R p.1 p.2 := by
  unfold sRet
  cases fx r <;> exact Iff.rfl
@[simp] theorem WS_drop : WS' X (sDrop fx r) N R ↔ WO' X (fx r) fun p => N p.2 := by
  unfold sDrop
  cases fx r <;> exact Iff.rfl
@[simp] theorem WS_set {i : Nat} : WS' X (sSet i fx r) N R ↔ WO' X (fx r) fun p => i < p.2.length ∧ N (p.2.set i (some p.1)) := by
  unfold sSet
  cases fx r with
  | ok p =>
    show WS' X (if i < p.2.length then _ else _) N R ↔ _
    by_cases h : i < p.2.length
    · rw [if_pos h]; exact ⟨fun z => ⟨h, z⟩, fun z => z.2⟩
    · rw [if_neg h]; exact ⟨fun z => z.elim, fun z => h z.1⟩
  | _ => exact Iff.rfl
@[simp] theorem WS_if {t : Env → Out (Bool × Env)} : WS' X (sIf t f g r) N R ↔ WO' X (t r) fun p => if p.1 = true then WS' X (f p.2) N R else WS' X (g p.2) N R := by
  unfold sIf
  cases t r with
  | ok p =>
    show WS' X (if p.1 = true then _ else _) N R ↔ if p.1 = true then _ else _
    split <;> exact Iff.rfl
  | _ => exact Iff.rfl
@[simp] theorem WO_lift {ns : List Nat} {ff : F} : WO' X (lift ns ff r) P ↔ WO' (fun x _ => X x (if shrs x.ds = true then frzN ns r else r)) (ff (view ns r)) fun d => P (d, if shr d = true then frzN ns r else r) := by
  unfold lift
  cases ff (view ns r) <;> exact Iff.rfl
@[simp] theorem WO_liftT {ns : List Nat} {ff : Env → Out Bool} {P : Bool × Env → Prop} : WO' X (liftT ns ff r) P ↔ WO' (fun x _ => X x (if shrs x.ds = true then frzN ns r else r)) (ff (view ns r)) fun b => P (b, r) := by
  unfold liftT
  cases ff (view ns r) <;> exact Iff.rfl
@[simp] theorem WO_liftA {ns : List Nat} {ff : Env → Out (List D)} {P : List D × Env → Prop} : WO' X (liftA ns ff r) P ↔ WO' (fun x _ => X x (if shrs x.ds = true then frzN ns r else r)) (ff (view ns r)) fun ds => P (ds, if shrs ds = true then frzN ns r else r) := by
  unfold liftA
  cases ff (view ns r) <;> exact Iff.rfl
@[simp] theorem WO_liftI {ns : List Nat} {ff : Env → Out (List D)} {P : List D × Env → Prop} : WO' X (liftI ns ff r) P ↔ WO' (fun x _ => X x (if shrs x.ds = true then frzN ns r else r)) (ff (view ns r)) fun ds => P (ds, frzN ns r) := by
  unfold liftI
  cases ff (view ns r) <;> exact Iff.rfl
theorem WO_if {α : Type} {c : Prop} [Decidable c] {a b : Out α} {P : α → Prop} : WO' X (if c then a else b) P ↔ if c then WO' X a P else WO' X b P := by
  split <;> exact Iff.rfl
theorem WO_xIO {i n : Nat} {m : List D → Out (D × D)} {h : Env → Out (List D × Env)} {d : D} (hd : r[i]? = some (some d)) : WO' X (xIO i n m h r) P ↔ WO' X (h r) fun p => ∃ d0, p.2[i]? = some (some d0) ∧ p.1.length + 1 = n ∧ WO' (fun x r => ∃ d1, r = [some d1] ∧ X x (p.2.set i (some d1))) (m (d0 :: frzs p.1)) fun q => P (q.1, p.2.set i (some q.2)) := by
  unfold xIO
  rw [hd]
  show WO' X (Out.bind _ _) P ↔ _
  rw [WO_bind]
  have : ∀ p : List D × Env, WO' X (match p.2[i]? with
      | some (some d0) => if p.1.length + 1 = n then (match m (d0 :: frzs p.1) with
        | .ok q => .ok (q.1, p.2.set i (some q.2))
        | .exn x [some d1] => .exn x (p.2.set i (some d1))
        | _ => .bad) else .bad
      | _ => .bad : Out (D × Env)) P ↔ ∃ d0, p.2[i]? = some (some d0) ∧ p.1.length + 1 = n ∧ WO' (fun x r => ∃ d1, r = [some d1] ∧ X x (p.2.set i (some d1))) (m (d0 :: frzs p.1)) fun q => P (q.1, p.2.set i (some q.2)) := by
    intro p
    split
    · rename_i d0 h0
      by_cases hl : p.1.length + 1 = n
      · rw [if_pos hl]
        constructor
        · intro z
          refine ⟨d0, h0, hl, ?_⟩
          split at z
          · rename_i q hq; rw [hq]; exact z
          · rename_i x d1 hq; rw [hq]; exact ⟨d1, rfl, z⟩
          · exact z.elim
        · rintro ⟨d1, h1, _, z⟩
          rw [h0] at h1; cases h1
          split
          · rename_i q hq; rw [hq] at z; exact z
          · rename_i x d1 hq
            rw [hq] at z
            obtain ⟨d2, e, z⟩ := z
            cases e
            exact z
          · rename_i n1 n2
            cases hq : m (d0 :: frzs p.1) with
            | ok q => exact (n1 q hq).elim
            | exn x r' =>
              rw [hq] at z
              obtain ⟨d2, e, z⟩ := z
              exact (n2 x d2 (by rw [hq, e])).elim
            | bad => rw [hq] at z; exact z.elim
      · rw [if_neg hl]
        exact ⟨fun z => z.elim, fun ⟨_, _, z, _⟩ => hl z⟩
    · rename_i hno
      exact ⟨fun z => z.elim, fun ⟨d0, z, _⟩ => hno d0 z⟩
  exact ⟨fun z => z.mono fun p => (this p).mp, fun z => z.mono fun p => (this p).mpr⟩
theorem WO_runP {n N' : Nat} {g : FS} {ds : List D} {P : D → Prop} (hl : ds.length = n) : WO' X (runP n N' g ds) P ↔ WS' (fun x _ => X x []) (g (ds.map some ++ List.replicate (N' - n) none)) (fun _ => P .non) fun d _ => P d := by
  unfold runP
  rw [if_pos hl]
  cases hg : g (ds.map some ++ List.replicate (N' - n) none) <;> exact Iff.rfl
theorem WO_runX {n N' : Nat} {g : FS} {ds : List D} {P : D × D → Prop} (hl : ds.length = n) : WO' X (runX n N' g ds) P ↔ WS' (fun x r => ∃ d0, r[0]? = some (some d0) ∧ X x [some d0]) (g (ds.map some ++ List.replicate (N' - n) none)) (fun r => ∃ d0, r[0]? = some (some d0) ∧ P (.non, d0)) fun d r => ∃ d0, r[0]? = some (some d0) ∧ P (d, d0) := by
  unfold runX
  rw [if_pos hl]
  cases hg : g (ds.map some ++ List.replicate (N' - n) none) with
  | nx r =>
    show WO' X (match r[0]? with | some (some d0) => _ | _ => _) P ↔ ∃ d0, r[0]? = some (some d0) ∧ P (.non, d0)
    split
    · rename_i d0 h0; exact ⟨fun z => ⟨d0, h0, z⟩, fun ⟨d1, h1, z⟩ => by rw [h0] at h1; cases h1; exact z⟩
    · rename_i hno; exact ⟨fun z => z.elim, fun ⟨d0, z, _⟩ => hno d0 z⟩
  | rt d r =>
    show WO' X (match r[0]? with | some (some d0) => _ | _ => _) P ↔ ∃ d0, r[0]? = some (some d0) ∧ P (d, d0)
    split
    · rename_i d0 h0; exact ⟨fun z => ⟨d0, h0, z⟩, fun ⟨d1, h1, z⟩ => by rw [h0] at h1; cases h1; exact z⟩
    · rename_i hno; exact ⟨fun z => z.elim, fun ⟨d0, z, _⟩ => hno d0 z⟩
  | exn x r =>
    show WO' X (match r[0]? with | some (some d0) => _ | _ => _) P ↔ ∃ d0, r[0]? = some (some d0) ∧ X x [some d0]
    split
    · rename_i d0 h0; exact ⟨fun z => ⟨d0, h0, z⟩, fun ⟨d1, h1, z⟩ => by rw [h0] at h1; cases h1; exact z⟩
    · rename_i hno; exact ⟨fun z => z.elim, fun ⟨d0, z, _⟩ => hno d0 z⟩
  | _ => exact Iff.rfl
/-! loops -/
theorem WS_for {it : Env → Out (List D × Env)} {tg : D → Env → Out Env} {body : FS} : WS' X (sFor it tg body r) N R ↔ WO' X (it r) fun p => WS' X (forS tg body p.1 p.2) N R := by
  unfold sFor
  cases it r <;> exact Iff.rfl
/-- by what holds ahead of each turn -/
theorem WS_forS {tg : D → Env → Out Env} {body : FS} (I : List D → Env → Prop) : ∀ (ds : List D) (r : Env), I ds r → (∀ d ds' r, I (d :: ds') r → WO' XF (tg d r) fun r1 => WB' X (body r1) (I ds') N R) → (∀ r, I [] r → N r) → WS' X (forS tg body ds r) N R
  | [], r, h, _, h2 => h2 r h
  | d :: ds, r, h, h1, h2 => by
    have := h1 d ds r h
    unfold forS
    cases ht : tg d r with
    | ok r1 =>
      rw [ht] at this
      have this : WB' X (body r1) (I ds) N R := this
      cases hb : body r1 with
      | nx r2 => rw [hb] at this; simp only [hb]; exact WS_forS I ds r2 this h1 h2
      | ct r2 => rw [hb] at this; simp only [hb]; exact WS_forS I ds r2 this h1 h2
      | bk r2 => rw [hb] at this; simp only [hb]; exact this
      | rt d' r2 => rw [hb] at this; simp only [hb]; exact this
      | exn x r2 => rw [hb] at this; simp only [hb]; exact this
      | bad => rw [hb] at this; exact this.elim
    | exn x r1 => rw [ht] at this; exact this.elim
    | bad => rw [ht] at this; exact this.elim
theorem WB_of {o : SO} {N B : Env → Prop} {R : D → Env → Prop} (h : WS' X o N R) : WB' X o N B R := by
  cases o <;> first | exact h | exact h.elim
end
end DL

namespace DL
open PySem L2
variable {X : Xc → Env → Prop}
section
variable {r : Env} {P : D → Prop} {fa fb fc : F} {o : Option D} {d e : D} {i j : Int}
@[simp] theorem cV_zero : cV 0 (some d :: r) = .ok d := rfl
@[simp] theorem cV_succ {k : Nat} : cV (k + 1) (o :: r) = cV k r := rfl
@[simp] theorem cK_eq : cK d r = .ok d := rfl
@[simp] theorem c1_eq {g : D → Out D} : c1 g fa r = (fa r).bind g := rfl
@[simp] theorem c2_eq {g : D → D → Out D} : c2 g fa fb r = (fa r).bind fun a => (fb r).bind fun b => g a b := rfl
@[simp] theorem c2S_eq {g : D → D → Out D} : c2S g fa fb r = (fa r).bind fun a => if isStrB a = true then (fb r).bind fun b => g a b else .bad := rfl
@[simp] theorem c3_eq {g g' : D → D → Out D} : c3 g g' fa fb fc r = (fa r).bind fun a => (fb r).bind fun b => (g a b).bind fun z => (isB z).bind fun k => if k = true then (fc r).bind fun c => g' b c else .ok (.bl false) := rfl
@[simp] theorem cFz_eq : cFz fa r = (fa r).bind fun a => .ok (frz a) := rfl
@[simp] theorem aNil_eq : aNil r = .ok [] := rfl
@[simp] theorem aCons_eq {g : Env → Out (List D)} : aCons fa g r = (fa r).bind fun d => (g r).bind fun ds => .ok (d :: ds) := rfl
@[simp] theorem cA_eq {g : List D → Out D} {fs : Env → Out (List D)} : cA g fs r = (fs r).bind g := rfl
@[simp] theorem cLst_eq {g : Env → Out (List D)} : cLst g r = (g r).bind fun ds => if ds.length ≤ 1000 then .ok (.lst true ds) else .bad := rfl
@[simp] theorem cTup_eq {g : Env → Out (List D)} : cTup g r = (g r).bind fun ds => if ds.length ≤ 1000 then .ok (.tup ds) else .bad := rfl
@[simp] theorem isB_bl {b : Bool} : isB (.bl b) = .ok b := rfl
@[simp] theorem tB_eq : DL.tB fa r = (fa r).bind isB := rfl
@[simp] theorem tAnd_eq {f g : Env → Out Bool} : DL.tAnd f g r = (f r).bind fun b => if b = true then g r else .ok false := rfl
@[simp] theorem tOr_eq {f g : Env → Out Bool} : DL.tOr f g r = (f r).bind fun b => if b = true then .ok true else g r := rfl
@[simp] theorem tNot_eq {f : Env → Out Bool} : DL.tNot f r = (f r).bind fun b => .ok (!b) := rfl
@[simp] theorem cIf_eq {t : Env → Out Bool} : cIf t fa fb r = (t r).bind fun b => if b = true then fa r else fb r := rfl
@[simp] theorem cAnd_eq : cAnd fa fb r = (fa r).bind fun a => (isB a).bind fun b => if b = true then fb r else .ok (.bl false) := rfl
@[simp] theorem cOr_eq : cOr fa fb r = (fa r).bind fun a => (isB a).bind fun b => if b = true then .ok (.bl true) else fb r := rfl
@[simp] theorem cNot_eq : cNot fa r = (fa r).bind fun a => (isB a).bind fun b => .ok (.bl (!b)) := rfl
@[simp] theorem chk_eq {n : Nat} {m : List D → Out D} {ds : List D} : chk n m ds = if ds.length = n then m ds else .bad := rfl
@[simp] theorem g1_eq {g : D → Out D} : g1 g [d] = g d := rfl
@[simp] theorem bind_ok {α β : Type} {a : α} {f : α → Out β} : (Out.ok a).bind f = f a := rfl
@[simp] theorem xNil_eq : xNil r = .ok ([], r) := rfl
@[simp] theorem xCons_eq {f : FX} {h : Env → Out (List D × Env)} : xCons f h r = (f r).bind fun p => (h p.2).bind fun q => .ok (p.1 :: q.1, q.2) := rfl
@[simp] theorem xLst_eq {h : Env → Out (List D × Env)} : xLst h r = (h r).bind fun p => if p.1.length ≤ 1000 then .ok (.lst true p.1, p.2) else .bad := rfl
@[simp] theorem xTup_eq {h : Env → Out (List D × Env)} : xTup h r = (h r).bind fun p => if p.1.length ≤ 1000 then .ok (.tup p.1, p.2) else .bad := rfl
@[simp] theorem x2_eq {g : D → D → Out D} {f h : FX} : x2 g f h r = (f r).bind fun p => (h p.2).bind fun q => (g (frz p.1) (frz q.1)).bind fun d => .ok (d, q.2) := rfl
@[simp] theorem x2S_eq {g : D → D → Out D} {f h : FX} : x2S g f h r = (f r).bind fun p => if isStrB p.1 = true then (h p.2).bind fun q => (g (frz p.1) (frz q.1)).bind fun d => .ok (d, q.2) else .bad := rfl
@[simp] theorem xTB_eq {f : FX} : xTB f r = (f r).bind fun p => (isB p.1).bind fun k => .ok (k, p.2) := rfl
@[simp] theorem xAnd_eq {s t : Env → Out (Bool × Env)} : xAnd s t r = (s r).bind fun p => if p.1 = true then t p.2 else .ok (false, p.2) := rfl
@[simp] theorem xOr_eq {s t : Env → Out (Bool × Env)} : xOr s t r = (s r).bind fun p => if p.1 = true then .ok (true, p.2) else t p.2 := rfl
@[simp] theorem xNot_eq {s : Env → Out (Bool × Env)} : xNot s r = (s r).bind fun p => .ok (!p.1, p.2) := rfl
@[simp] theorem sN_eq {k : Nat} : sN k d r = if k < r.length then .ok (r.set k (some d)) else .bad := rfl
@[simp] theorem isStr_eq {cs : List Nat} : isStrB (.str cs) = true := rfl
/-! freezing, sharing -/
@[simp] theorem frz_non : frz .non = .non := rfl
@[simp] theorem frz_any : frz .any = .any := rfl
@[simp] theorem frz_bl {b : Bool} : frz (.bl b) = .bl b := rfl
@[simp] theorem frz_int : frz (.int i) = .int i := rfl
@[simp] theorem frz_str {cs : List Nat} : frz (.str cs) = .str cs := rfl
@[simp] theorem frz_scr {ns : List Int} : frz (.scr ns) = .scr ns := rfl
@[simp] theorem frz_lst {b : Bool} {xs : List D} : frz (.lst b xs) = .lst false (frzs xs) := rfl
@[simp] theorem frz_tup {xs : List D} : frz (.tup xs) = .tup (frzs xs) := rfl
@[simp] theorem frz_dK {b : Bool} {ks : List Key} {xs : List D} : frz (.dK b ks xs) = .dK false ks (frzs xs) := rfl
@[simp] theorem frzs_nil : frzs [] = [] := rfl
@[simp] theorem frzs_cons {xs : List D} : frzs (d :: xs) = frz d :: frzs xs := rfl
@[simp] theorem shr_non : shr .non = false := rfl
@[simp] theorem shr_any : shr .any = false := rfl
@[simp] theorem shr_bl {b : Bool} : shr (.bl b) = false := rfl
@[simp] theorem shr_int : shr (.int i) = false := rfl
@[simp] theorem shr_str {cs : List Nat} : shr (.str cs) = false := rfl
@[simp] theorem shr_scr {ns : List Int} : shr (.scr ns) = false := rfl
@[simp] theorem shr_lst {b : Bool} {xs : List D} : shr (.lst b xs) = (!b || shrs xs) := rfl
@[simp] theorem shr_tup {xs : List D} : shr (.tup xs) = shrs xs := rfl
@[simp] theorem shr_dK {b : Bool} {ks : List Key} {xs : List D} : shr (.dK b ks xs) = (!b || shrs xs) := rfl
@[simp] theorem shrs_nil : shrs [] = false := rfl
@[simp] theorem shrs_cons {xs : List D} : shrs (d :: xs) = (shr d || shrs xs) := rfl
theorem frzs_strs (xs : List (List Nat)) : frzs (xs.map D.str) = xs.map D.str := by rw [frzs_map, List.map_map]; rfl
theorem frzs_ints (xs : List Int) : frzs (xs.map D.int) = xs.map D.int := by rw [frzs_map, List.map_map]; rfl
theorem shrs_strs (xs : List (List Nat)) : shrs (xs.map D.str) = false := by rw [shrs_any]; simp
theorem shrs_ints (xs : List Int) : shrs (xs.map D.int) = false := by rw [shrs_any]; simp
@[simp] theorem viewF_nil {p : Nat → Bool} {k : Nat} : viewF p k [] = [] := rfl
@[simp] theorem viewF_cons {p : Nat → Bool} {k : Nat} : viewF p k (o :: r) = (if p k = true then o.map frz else none) :: viewF p (k + 1) r := rfl
@[simp] theorem frzF_nil {p : Nat → Bool} {k : Nat} : frzF p k [] = [] := rfl
@[simp] theorem frzF_cons {p : Nat → Bool} {k : Nat} : frzF p k (o :: r) = (if p k = true then o.map frz else o) :: frzF p (k + 1) r := rfl
/-! operators -/
@[simp] theorem gAddI_eq : gI0 (fun i j => .int (i + j)) (.int i) (.int j) = .ok (.int (i + j)) := rfl
@[simp] theorem gI0_eq {g : Int → Int → D} : gI0 g (.int i) (.int j) = .ok (g i j) := rfl
@[simp] theorem WO_gI {C : Int → Int → Prop} [∀ i j, Decidable (C i j)] {g : Int → Int → D} : WO' X (gI C g (.int i) (.int j)) P ↔ C i j ∧ P (g i j) := by
  show WO' X (if C i j then _ else _) P ↔ _
  by_cases h : C i j
  · rw [if_pos h]; exact ⟨fun z => ⟨h, z⟩, fun z => z.2⟩
  · rw [if_neg h]; exact ⟨fun z => z.elim, fun z => h z.1⟩
@[simp] theorem WO_gAddS {u v : List Nat} : WO' X (gAddS (.str u) (.str v)) P ↔ u.length + v.length ≤ 1000000 ∧ P (.str (u ++ v)) := by
  show WO' X (if u.length + v.length ≤ 1000000 then _ else _) P ↔ _
  by_cases h : u.length + v.length ≤ 1000000
  · rw [if_pos h]; exact ⟨fun z => ⟨h, z⟩, fun z => z.2⟩
  · rw [if_neg h]; exact ⟨fun z => z.elim, fun z => h z.1⟩
@[simp] theorem WO_gMulS {u : List Nat} : WO' X (gMulS (.str u) (.int i)) P ↔ (u.length ≤ 1000 ∧ -1000 ≤ i ∧ i ≤ 1000) ∧ P (.str (List.replicate i.toNat u).flatten) := by
  show WO' X (if u.length ≤ 1000 ∧ -1000 ≤ i ∧ i ≤ 1000 then _ else _) P ↔ _
  by_cases h : u.length ≤ 1000 ∧ -1000 ≤ i ∧ i ≤ 1000
  · rw [if_pos h]; exact ⟨fun z => ⟨h, z⟩, fun z => z.2⟩
  · rw [if_neg h]; exact ⟨fun z => z.elim, fun z => h z.1⟩
@[simp] theorem WO_gEq : WO' X (gEq d e) P ↔ eqOk d e = true ∧ P (.bl (eqD d e)) := by
  unfold gEq
  by_cases h : eqOk d e = true
  · rw [if_pos h]; exact ⟨fun z => ⟨h, z⟩, fun z => z.2⟩
  · rw [if_neg h]; exact ⟨fun z => z.elim, fun z => h z.1⟩
@[simp] theorem WO_gNe : WO' X (gNe d e) P ↔ eqOk d e = true ∧ P (.bl (!eqD d e)) := by
  unfold gNe
  by_cases h : eqOk d e = true
  · rw [if_pos h]; exact ⟨fun z => ⟨h, z⟩, fun z => z.2⟩
  · rw [if_neg h]; exact ⟨fun z => z.elim, fun z => h z.1⟩
@[simp] theorem gInS_eq {neg : Bool} {c : Nat} {cs : List Nat} : gIn neg (.str [c]) (.str cs) = .ok (.bl (cs.contains c != neg)) := rfl
@[simp] theorem WO_gInL {neg b : Bool} {xs : List D} : WO' X (gIn neg d (.lst b xs)) P ↔ (plainD d && plainDs xs && dle 60 d) = true ∧ P (.bl (inD d xs != neg)) := by
  show WO' X (if _ then _ else _) P ↔ _
  by_cases h : (plainD d && plainDs xs && dle 60 d) = true
  · rw [if_pos h]; exact ⟨fun z => ⟨h, z⟩, fun z => z.2⟩
  · rw [if_neg h]; exact ⟨fun z => z.elim, fun z => h z.1⟩
@[simp] theorem WO_gInT {neg : Bool} {xs : List D} : WO' X (gIn neg d (.tup xs)) P ↔ (plainD d && plainDs xs && dle 60 d) = true ∧ P (.bl (inD d xs != neg)) := by
  show WO' X (if _ then _ else _) P ↔ _
  by_cases h : (plainD d && plainDs xs && dle 60 d) = true
  · rw [if_pos h]; exact ⟨fun z => ⟨h, z⟩, fun z => z.2⟩
  · rw [if_neg h]; exact ⟨fun z => z.elim, fun z => h z.1⟩
@[simp] theorem WO_ofO {α : Type} {o : Option α} {P : α → Prop} : WO' X (ofO o) P ↔ ∃ a, o = some a ∧ P a := by
  cases o with
  | none => exact ⟨fun z => z.elim, fun ⟨_, z, _⟩ => nomatch z⟩
  | some a => exact ⟨fun z => ⟨a, rfl, z⟩, fun ⟨b, e, z⟩ => by cases e; exact z⟩
@[simp] theorem gIxL_eq {b : Bool} {xs : List D} : gIx (.lst b xs) (.int i) = ofO (atI xs i) := rfl
@[simp] theorem gIxT_eq {xs : List D} : gIx (.tup xs) (.int i) = ofO (atI xs i) := rfl
@[simp] theorem gIxR_eq {ns : List Int} : gIx (.scr ns) (.int i) = ofO ((atI ns i).map fun n => .int n) := rfl
@[simp] theorem gIxS_eq {cs : List Nat} : gIx (.str cs) (.int i) = if cs.length ≤ 1000000 then ofO ((atI cs i).map fun c => .str [c]) else .bad := rfl
@[simp] theorem gLenS_eq {cs : List Nat} : gLen (.str cs) = if cs.length ≤ 1000000 then .ok (.int cs.length) else .bad := rfl
@[simp] theorem gLenL_eq {b : Bool} {xs : List D} : gLen (.lst b xs) = .ok (.int xs.length) := rfl
@[simp] theorem gLenT_eq {xs : List D} : gLen (.tup xs) = .ok (.int xs.length) := rfl
@[simp] theorem gLenR_eq {ns : List Int} : gLen (.scr ns) = .ok (.int ns.length) := rfl
theorem atI_pos {α : Type} {xs : List α} (h0 : 0 ≤ i) (h1 : i < xs.length) : atI xs i = xs[i.toNat]? := by
  unfold atI ixN
  rw [if_pos h0, if_pos h1]
  rfl
theorem WO_at {α : Type} {xs : List α} (h0 : 0 ≤ i) (h1 : i < xs.length) : ∃ a, atI xs i = some a ∧ a ∈ xs := by
  rw [atI_pos h0 h1]
  have : i.toNat < xs.length := by omega
  exact ⟨xs[i.toNat], by simp [this], List.getElem_mem _⟩
end
end DL

namespace DL
open PySem L2
variable {X : Xc → Env → Prop}
section
variable {r : Env} {P : D → Prop} {N : Env → Prop} {R : D → Env → Prop} {fa fb fc : F} {o : Option D} {d e x y : D} {i j : Int} {xs : List D}
@[simp] theorem WS_put {i : Nat} {f fk : FX} : WS' X (sPut i f fk r) N R ↔ WO' X (f r) fun p => ∃ d, p.2[i]? = some (some d) ∧ WO' X (fk p.2) fun q => ∃ k ds j, q.1 = .int k ∧ q.2[i]? = some (some (.lst true ds)) ∧ ixN ds.length k = some j ∧ N (q.2.set i (some (.lst true (ds.set j (frz p.1))))) := by
  unfold sPut
  cases f r with
  | ok p =>
    show WS' X (match p.2[i]? with | some (some _) => _ | _ => _) N R ↔ ∃ d, p.2[i]? = some (some d) ∧ _
    split
    · rename_i d0 h0
      cases hk : fk p.2 with
      | ok q =>
        have key : ∀ (q1 : D) (q2 : Env), WS' X (match q1, q2[i]? with
          | .int k, some (some (.lst true ds)) => (match ixN ds.length k with
            | some j => .nx (q2.set i (some (.lst true (ds.set j (frz p.1)))))
            | none => .bad)
          | _, _ => .bad : SO) N R ↔ ∃ k ds j, q1 = .int k ∧ q2[i]? = some (some (.lst true ds)) ∧ ixN ds.length k = some j ∧ N (q2.set i (some (.lst true (ds.set j (frz p.1))))) := by
          intro q1 q2
          generalize hq : q2[i]? = o
          split
          · rename_i k ds
            constructor
            · intro z
              split at z
              · rename_i j hj; exact ⟨k, ds, j, rfl, rfl, hj, z⟩
              · exact z.elim
            · rintro ⟨k', ds', j, f1, f2, f3, z⟩
              cases f1
              cases f2
              rw [f3]; exact z
          · rename_i hno
            exact ⟨fun z => z.elim, fun ⟨k', ds', j, f1, f2, f3, z⟩ => (hno k' ds' f1 f2).elim⟩
        exact ⟨fun z => ⟨d0, h0, (key q.1 q.2).mp z⟩, fun ⟨_, _, z⟩ => (key q.1 q.2).mpr z⟩
      | exn _ _ => exact ⟨fun z => ⟨d0, h0, z⟩, fun ⟨_, _, z⟩ => z⟩
      | bad => exact ⟨fun z => z.elim, fun ⟨_, _, z⟩ => z.elim⟩
    · rename_i hno
      exact ⟨fun z => z.elim, fun ⟨d, z, _⟩ => (hno d z).elim⟩
  | exn _ _ => exact Iff.rfl
  | bad => exact Iff.rfl
theorem ixN_pos {n : Nat} (h0 : 0 ≤ i) (h1 : i < n) : ixN n i = some i.toNat := by
  unfold ixN
  rw [if_pos h0, if_pos h1]
@[simp] theorem atI_zero {α : Type} {x : α} {xs : List α} : atI (x :: xs) 0 = some x := by
  rw [atI_pos (by omega) (by rw [List.length_cons]; omega)]; rfl
@[simp] theorem atI_one {α : Type} {x y : α} {xs : List α} : atI (x :: y :: xs) 1 = some y := by
  rw [atI_pos (by omega) (by simp only [List.length_cons]; omega)]; rfl
@[simp] theorem atI_two {α : Type} {x y z : α} {xs : List α} : atI (x :: y :: z :: xs) 2 = some z := by
  rw [atI_pos (by omega) (by simp only [List.length_cons]; omega)]; rfl
@[simp] theorem ixN_zero {n : Nat} : ixN (n + 1) 0 = some 0 := by rw [ixN_pos (by omega) (by omega)]; rfl
@[simp] theorem ixN_one {n : Nat} : ixN (n + 2) 1 = some 1 := by rw [ixN_pos (by omega) (by omega)]; rfl
/-! iteration -/
@[simp] theorem iL_eq : iL fa r = (fa r).bind fun d => match d with | .lst _ xs => .ok xs | _ => .bad := rfl
@[simp] theorem iT_eq : iT fa r = (fa r).bind fun d => match d with | .tup xs => .ok xs | _ => .bad := rfl
@[simp] theorem iS_eq : iS fa r = (fa r).bind fun d => match d with | .str cs => .ok (cs.map fun c => .str [c]) | _ => .bad := rfl
theorem mem_rng {lo : Int} {n : Nat} (h : d ∈ rng lo n) : ∃ k : Int, d = .int k ∧ lo ≤ k ∧ k < lo + n := by
  unfold rng at h
  obtain ⟨a, h1, rfl⟩ := List.mem_map.mp h
  have := List.mem_range.mp h1
  exact ⟨_, rfl, by omega, by omega⟩
@[simp] theorem len_rng {lo : Int} {n : Nat} : (rng lo n).length = n := by unfold rng; simp
@[simp] theorem WO_iR1 {fs : Env → Out (List D)} {P : List D → Prop} : WO' X (iR1 fs r) P ↔ WO' X (fs r) fun ds => ∃ j, ds = [.int j] ∧ (-1000000 ≤ j ∧ j ≤ 1000000) ∧ P (rng 0 j.toNat) := by
  unfold iR1
  rw [WO_bind]
  have : ∀ ds : List D, WO' X (match ds with
    | [.int j] => if -1000000 ≤ j ∧ j ≤ 1000000 then .ok (rng 0 j.toNat) else .bad
    | _ => .bad : Out (List D)) P ↔ ∃ j, ds = [.int j] ∧ (-1000000 ≤ j ∧ j ≤ 1000000) ∧ P (rng 0 j.toNat) := by
    intro ds
    split
    · rename_i j
      by_cases h : -1000000 ≤ j ∧ j ≤ 1000000
      · rw [if_pos h]; exact ⟨fun z => ⟨j, rfl, h, z⟩, fun ⟨j', e, _, z⟩ => by cases e; exact z⟩
      · rw [if_neg h]; exact ⟨fun z => z.elim, fun ⟨j', e, h', z⟩ => by cases e; exact (h h').elim⟩
    · rename_i hno; exact ⟨fun z => z.elim, fun ⟨j, z, _⟩ => hno j z⟩
  exact ⟨fun z => z.mono fun p => (this p).mp, fun z => z.mono fun p => (this p).mpr⟩
@[simp] theorem WO_iR2 {fs : Env → Out (List D)} {P : List D → Prop} : WO' X (iR2 fs r) P ↔ WO' X (fs r) fun ds => ∃ i j, ds = [.int i, .int j] ∧ ((-1000000 ≤ i ∧ i ≤ 1000000) ∧ -1000000 ≤ j ∧ j ≤ 1000000) ∧ P (rng i (j - i).toNat) := by
  unfold iR2
  rw [WO_bind]
  have : ∀ ds : List D, WO' X (match ds with
    | [.int i, .int j] => if (-1000000 ≤ i ∧ i ≤ 1000000) ∧ -1000000 ≤ j ∧ j ≤ 1000000 then .ok (rng i (j - i).toNat) else .bad
    | _ => .bad : Out (List D)) P ↔ ∃ i j, ds = [.int i, .int j] ∧ ((-1000000 ≤ i ∧ i ≤ 1000000) ∧ -1000000 ≤ j ∧ j ≤ 1000000) ∧ P (rng i (j - i).toNat) := by
    intro ds
    split
    · rename_i i j
      by_cases h : (-1000000 ≤ i ∧ i ≤ 1000000) ∧ -1000000 ≤ j ∧ j ≤ 1000000
      · rw [if_pos h]; exact ⟨fun z => ⟨i, j, rfl, h, z⟩, fun ⟨i', j', e, _, z⟩ => by cases e; exact z⟩
      · rw [if_neg h]; exact ⟨fun z => z.elim, fun ⟨i', j', e, h', z⟩ => by cases e; exact (h h').elim⟩
    · rename_i hno; exact ⟨fun z => z.elim, fun ⟨i, j, z, _⟩ => hno i j z⟩
  exact ⟨fun z => z.mono fun p => (this p).mp, fun z => z.mono fun p => (this p).mpr⟩
@[simp] theorem WO_iXR1 {fs : Env → Out (List D × Env)} {P : List D × Env → Prop} : WO' X (iXR1 fs r) P ↔ WO' X (fs r) fun p => ∃ j, p.1 = [.int j] ∧ (-1000000 ≤ j ∧ j ≤ 1000000) ∧ P (rng 0 j.toNat, p.2) := by
  unfold iXR1
  rw [WO_bind]
  have : ∀ p : List D × Env, WO' X (match p.1 with
    | [.int j] => if -1000000 ≤ j ∧ j ≤ 1000000 then .ok (rng 0 j.toNat, p.2) else .bad
    | _ => .bad : Out (List D × Env)) P ↔ ∃ j, p.1 = [.int j] ∧ (-1000000 ≤ j ∧ j ≤ 1000000) ∧ P (rng 0 j.toNat, p.2) := by
    intro ⟨ds, r'⟩
    dsimp only
    split
    · rename_i j
      by_cases h : -1000000 ≤ j ∧ j ≤ 1000000
      · rw [if_pos h]; exact ⟨fun z => ⟨j, rfl, h, z⟩, fun ⟨j', e, _, z⟩ => by cases e; exact z⟩
      · rw [if_neg h]; exact ⟨fun z => z.elim, fun ⟨j', e, h', z⟩ => by cases e; exact (h h').elim⟩
    · rename_i hno; exact ⟨fun z => z.elim, fun ⟨j, z, _⟩ => hno j z⟩
  exact ⟨fun z => z.mono fun p => (this p).mp, fun z => z.mono fun p => (this p).mpr⟩
@[simp] theorem WO_iXR2 {fs : Env → Out (List D × Env)} {P : List D × Env → Prop} : WO' X (iXR2 fs r) P ↔ WO' X (fs r) fun p => ∃ i j, p.1 = [.int i, .int j] ∧ ((-1000000 ≤ i ∧ i ≤ 1000000) ∧ -1000000 ≤ j ∧ j ≤ 1000000) ∧ P (rng i (j - i).toNat, p.2) := by
  unfold iXR2
  rw [WO_bind]
  have : ∀ p : List D × Env, WO' X (match p.1 with
    | [.int i, .int j] => if (-1000000 ≤ i ∧ i ≤ 1000000) ∧ -1000000 ≤ j ∧ j ≤ 1000000 then .ok (rng i (j - i).toNat, p.2) else .bad
    | _ => .bad : Out (List D × Env)) P ↔ ∃ i j, p.1 = [.int i, .int j] ∧ ((-1000000 ≤ i ∧ i ≤ 1000000) ∧ -1000000 ≤ j ∧ j ≤ 1000000) ∧ P (rng i (j - i).toNat, p.2) := by
    intro ⟨ds, r'⟩
    dsimp only
    split
    · rename_i i j
      by_cases h : (-1000000 ≤ i ∧ i ≤ 1000000) ∧ -1000000 ≤ j ∧ j ≤ 1000000
      · rw [if_pos h]; exact ⟨fun z => ⟨i, j, rfl, h, z⟩, fun ⟨i', j', e, _, z⟩ => by cases e; exact z⟩
      · rw [if_neg h]; exact ⟨fun z => z.elim, fun ⟨i', j', e, h', z⟩ => by cases e; exact (h h').elim⟩
    · rename_i hno; exact ⟨fun z => z.elim, fun ⟨i, j, z, _⟩ => hno i j z⟩
  exact ⟨fun z => z.mono fun p => (this p).mp, fun z => z.mono fun p => (this p).mpr⟩
/-! comprehensions -/
theorem turns_map {h : D → Out (Option D)} (k : D → Option D) : ∀ ds : List D, (∀ d ∈ ds, h d = .ok (k d)) → turns h ds = .ok (ds.filterMap k)
  | [], _ => rfl
  | d :: ds, hh => by
    unfold turns
    rw [hh d (List.mem_cons_self ..), turns_map k ds fun x hx => hh x (List.mem_cons_of_mem _ hx)]
    rw [List.filterMap_cons]
    show Out.ok _ = _
    cases k d <;> rfl
theorem WO_cLc {it : Env → Out (List D)} {vs : List Nat} {g : D → Env → Out Env} {tt : Env → Out Bool} {el : F} (k : D → Option D) (h : WO' X (it r) fun ds => ds.length ≤ 1000000 ∧ (∀ d ∈ ds, turn vs g tt el r d = .ok (k d)) ∧ P (.lst true (ds.filterMap k))) : WO' X (cLc it vs g tt el r) P := by
  unfold cLc
  rw [WO_bind]
  refine h.mono fun ds ⟨h1, h2, h3⟩ => ?_
  rw [if_pos h1, turns_map k ds h2]
  exact h3
theorem WO_cLcM {α : Type} {it : Env → Out (List D)} {vs : List Nat} {g : D → Env → Out Env} {tt : Env → Out Bool} {el : F} (f : α → D) (k : α → D) (as : List α) (h : WO' XF (it r) fun ds => ds = as.map f) (hl : as.length ≤ 1000000) (h1 : ∀ a ∈ as, WO' XF (turn vs g tt el r (f a)) fun o => o = some (k a)) (hp : P (.lst true (as.map k))) : WO' X (cLc it vs g tt el r) P := by
  have e : it r = .ok (as.map f) := h.eq
  unfold cLc
  rw [e]
  show WO' X (if (as.map f).length ≤ 1000000 then _ else _) P
  rw [List.length_map, if_pos hl]
  have : ∀ as : List α, (∀ a ∈ as, turn vs g tt el r (f a) = .ok (some (k a))) → turns (turn vs g tt el r) (as.map f) = .ok (as.map k) := by
    intro as
    induction as with
    | nil => intro _; rfl
    | cons a as ih =>
      intro h1
      rw [List.map_cons, List.map_cons]
      unfold turns
      rw [h1 a (List.mem_cons_self ..), ih fun x hx => h1 x (List.mem_cons_of_mem _ hx)]
      rfl
  rw [this as fun a ha => (h1 a ha).eq]
  exact hp
theorem WO_cLcF {α : Type} {it : Env → Out (List D)} {vs : List Nat} {g : D → Env → Out Env} {tt : Env → Out Bool} {el : F} (f : α → D) (t : α → Bool) (k : α → D) (as : List α) (h : WO' XF (it r) fun ds => ds = as.map f) (hl : as.length ≤ 1000000) (h1 : ∀ a ∈ as, WO' XF (turn vs g tt el r (f a)) fun o => o = if t a = true then some (k a) else none) (hp : P (.lst true ((as.filter t).map k))) : WO' X (cLc it vs g tt el r) P := by
  have e : it r = .ok (as.map f) := h.eq
  unfold cLc
  rw [e]
  show WO' X (if (as.map f).length ≤ 1000000 then _ else _) P
  rw [List.length_map, if_pos hl]
  have : ∀ as : List α, (∀ a ∈ as, turn vs g tt el r (f a) = .ok (if t a = true then some (k a) else none)) → turns (turn vs g tt el r) (as.map f) = .ok ((as.filter t).map k) := by
    intro as
    induction as with
    | nil => intro _; rfl
    | cons a as ih =>
      intro h1
      rw [List.map_cons, List.filter_cons]
      unfold turns
      rw [h1 a (List.mem_cons_self ..), ih fun x hx => h1 x (List.mem_cons_of_mem _ hx)]
      by_cases ht : t a = true
      · simp [ht]
      · simp [ht]
  rw [this as fun a ha => (h1 a ha).eq]
  exact hp
@[simp] theorem turn_eq {vs : List Nat} {g : D → Env → Out Env} {tt : Env → Out Bool} {el : F} : turn vs g tt el r d = (g d (wipeE r vs)).bind fun r2 => (tt r2).bind fun b => if b = true then (el r2).bind fun y => .ok (some y) else .ok none := rfl
theorem WO_xturns {gg : D → Env → Out Env} {tt : Env → Out (Bool × Env)} {el : FX} (I : List D → List D → Env → Prop) : ∀ (ds acc : List D) (r : Env), I acc ds r → (∀ acc d ds r, I acc (d :: ds) r → WO' XF (gg d r) fun r1 => WO' XF (tt r1) fun q => if q.1 = true then WO' XF (el q.2) fun y => I (acc ++ [y.1]) ds y.2 else I acc ds q.2) → WO' XF (xturns gg tt el ds r) fun z => I (acc ++ z.1) [] z.2
  | [], acc, r, h, _ => by show I (acc ++ []) [] r; rw [List.append_nil]; exact h
  | d :: ds, acc, r, h, h1 => by
    unfold xturns
    rw [WO_bind]
    refine (h1 acc d ds r h).mono fun r1 z => ?_
    rw [WO_bind]
    refine z.mono fun q z => ?_
    by_cases hq : q.1 = true
    · rw [if_pos hq] at z ⊢
      rw [WO_bind]
      refine z.mono fun y z => ?_
      rw [WO_bind]
      refine (WO_xturns I ds _ _ z h1).mono fun w z => ?_
      show I (acc ++ (y.1 :: w.1)) [] w.2
      rw [List.append_cons]
      exact z
    · rw [if_neg hq] at z ⊢
      exact WO_xturns I ds _ _ z h1
theorem WO_xLc {it : Env → Out (List D × Env)} {vs : List Nat} {gg : D → Env → Out Env} {tt : Env → Out (Bool × Env)} {el : FX} {P : D × Env → Prop} (I : List D → List D → Env → Prop) (h0 : WO' X (it r) fun p => p.1.length ≤ 1000000 ∧ I [] p.1 p.2) (h1 : ∀ acc d ds r, I acc (d :: ds) r → WO' XF (gg d (wipeE r vs)) fun r1 => WO' XF (tt r1) fun q => if q.1 = true then WO' XF (el q.2) fun y => I (acc ++ [y.1]) ds y.2 else I acc ds q.2) (h2 : ∀ ys r, I ys [] r → P (.lst true ys, wipeE r vs)) : WO' X (xLc it vs gg tt el r) P := by
  unfold xLc
  rw [WO_bind]
  refine h0.mono fun p ⟨h3, h4⟩ => ?_
  rw [if_pos h3, WO_bind, WO_safe]
  refine (WO_xturns I _ _ _ h4 h1).mono fun z h5 => ?_
  rw [List.nil_append] at h5
  exact h2 _ _ h5
@[simp] theorem wipeE_nil : wipeE r [] = r := rfl
@[simp] theorem wipeE_cons {v : Nat} {vs : List Nat} : wipeE r (v :: vs) = (wipeE r vs).set v none := rfl
@[simp] theorem xYes_eq : xYes r = .ok (true, r) := rfl
@[simp] theorem tYes_eq : tYes' r = .ok true := rfl
/-! slices -/
@[simp] theorem cSl_eq {g : D → Option Int → Option Int → Out D} {l h : Env → Out (Option Int)} : cSl g fa l h r = (fa r).bind fun d => (l r).bind fun i => (h r).bind fun j => g d i j := rfl
@[simp] theorem oNone_eq : oNone r = .ok none := rfl
@[simp] theorem oSome_eq : oSome fa r = (fa r).bind fun d => (isI d).bind fun i => .ok (some i) := rfl
@[simp] theorem isI_eq : isI (.int i) = .ok i := rfl
@[simp] theorem gSlS_eq {cs : List Nat} {l h : Option Int} : gSlS (.str cs) l h = if cs.length ≤ 1000000 then .ok (.str (cut cs l h)) else .bad := rfl
@[simp] theorem gSlStr_eq {cs : List Nat} {l h : Option Int} : gSl (.str cs) l h = if cs.length ≤ 1000000 then .ok (.str (cut cs l h)) else .bad := rfl
@[simp] theorem gSlL_eq {b : Bool} {l h : Option Int} : gSl (.lst b xs) l h = .ok (.lst true (cut xs l h)) := rfl
theorem cut_len {α : Type} (xs : List α) (l h : Option Int) : (cut xs l h).length ≤ xs.length := by
  unfold cut; rw [List.length_take, List.length_drop]; omega
/-! texts -/
@[simp] theorem strsD_map (xs : List (List Nat)) : strsD (xs.map D.str) = some xs := by
  induction xs with
  | nil => rfl
  | cons x xs ih => show (strsD (xs.map D.str)).map _ = _; rw [ih]; rfl
@[simp] theorem blsD_map (xs : List Bool) : blsD (xs.map D.bl) = some xs := by
  induction xs with
  | nil => rfl
  | cons x xs ih => show (blsD (xs.map D.bl)).map _ = _; rw [ih]; rfl
theorem joinL_nil (xs : List (List Nat)) : joinL [] xs = xs.flatten := by
  cases xs with
  | nil => rfl
  | cons x xs => show x ++ (xs.map fun y => [] ++ y).flatten = _; simp
theorem flat_ones (cs : List Nat) : (cs.map fun c => [c]).flatten = cs := by
  induction cs with
  | nil => rfl
  | cons c cs ih => show c :: (cs.map fun c => [c]).flatten = _; rw [ih]
theorem lenSum_ones (cs : List Nat) : lenSum (cs.map fun c => [c]) = cs.length := by
  induction cs with
  | nil => rfl
  | cons c cs ih => show 1 + lenSum (cs.map fun c => [c]) = _; rw [ih, List.length_cons]; omega
@[simp] theorem strsD_ones (cs : List Nat) : strsD (cs.map fun c => D.str [c]) = some (cs.map fun c => [c]) := by
  induction cs with
  | nil => rfl
  | cons x xs ih => show (strsD (xs.map fun c => D.str [c])).map _ = _; rw [ih]; rfl
@[simp] theorem frzs_ones (cs : List Nat) : frzs (cs.map fun c => D.str [c]) = cs.map fun c => D.str [c] := by
  rw [frzs_map, List.map_map]; rfl
@[simp] theorem frzs_bls (cs : List Bool) : frzs (cs.map D.bl) = cs.map D.bl := by
  rw [frzs_map, List.map_map]; rfl
@[simp] theorem WO_join0 {b : Bool} {cs : List Nat} : WO' X (gJoin (.str []) (.lst b (cs.map fun c => D.str [c]))) P ↔ cs.length ≤ 1000000 ∧ P (.str cs) := by
  show WO' X (match strsD (cs.map fun c => D.str [c]) with | some xs => _ | none => _) P ↔ _
  rw [strsD_ones]
  show WO' X (if lenSum (cs.map fun c => [c]) + _ * 0 ≤ 1000000 then .ok (.str (joinL [] (cs.map fun c => [c]))) else .bad) P ↔ _
  rw [lenSum_ones, joinL_nil, flat_ones, Nat.mul_zero, Nat.add_zero]
  by_cases h : cs.length ≤ 1000000
  · rw [if_pos h]; exact ⟨fun z => ⟨h, z⟩, fun z => z.2⟩
  · rw [if_neg h]; exact ⟨fun z => z.elim, fun z => h z.1⟩
@[simp] theorem WO_ifbad {α : Type} {c : Prop} [Decidable c] {o : Out α} {P : α → Prop} : WO' X (if c then o else .bad) P ↔ c ∧ WO' X o P := by
  by_cases h : c
  · rw [if_pos h]; exact ⟨fun z => ⟨h, z⟩, fun z => z.2⟩
  · rw [if_neg h]; exact ⟨fun z => z.elim, fun z => h z.1⟩
@[simp] theorem WO_ite_tt {α : Type} {c : Prop} [Decidable c] {o o' : Out α} {P : α → Prop} : WO' X (if c then o else o') P ↔ if c then WO' X o P else WO' X o' P := WO_if
@[simp] theorem gListL_eq {b : Bool} : gList (.lst b xs) = .ok (.lst true xs) := rfl
@[simp] theorem gListS_eq {cs : List Nat} : gList (.str cs) = if cs.length ≤ 1000000 then .ok (.lst true (cs.map fun c => .str [c])) else .bad := rfl
end
end DL

namespace DL
open PySem L2
variable {X : Xc → Env → Prop}
@[simp] theorem isi_int_non  : gIsi .int .non = .ok (.bl false) := rfl
@[simp] theorem isi_int_bl {b : Bool} : gIsi .int (.bl b) = .ok (.bl true) := rfl
@[simp] theorem isi_int_int {i : Int} : gIsi .int (.int i) = .ok (.bl true) := rfl
@[simp] theorem isi_int_str {cs : List Nat} : gIsi .int (.str cs) = .ok (.bl false) := rfl
@[simp] theorem isi_int_lst {b : Bool} {xs : List D} : gIsi .int (.lst b xs) = .ok (.bl false) := rfl
@[simp] theorem isi_int_tup {xs : List D} : gIsi .int (.tup xs) = .ok (.bl false) := rfl
@[simp] theorem isi_int_dK {b : Bool} {ks : List Key} {xs : List D} : gIsi .int (.dK b ks xs) = .ok (.bl false) := rfl
@[simp] theorem isi_int_obj {b : Bool} {c : Str} {ks : List Str} {xs : List D} : gIsi .int (.obj b c ks xs) = .ok (.bl false) := rfl
@[simp] theorem isi_bool_non  : gIsi .bool .non = .ok (.bl false) := rfl
@[simp] theorem isi_bool_bl {b : Bool} : gIsi .bool (.bl b) = .ok (.bl true) := rfl
@[simp] theorem isi_bool_int {i : Int} : gIsi .bool (.int i) = .ok (.bl false) := rfl
@[simp] theorem isi_bool_str {cs : List Nat} : gIsi .bool (.str cs) = .ok (.bl false) := rfl
@[simp] theorem isi_bool_lst {b : Bool} {xs : List D} : gIsi .bool (.lst b xs) = .ok (.bl false) := rfl
@[simp] theorem isi_bool_tup {xs : List D} : gIsi .bool (.tup xs) = .ok (.bl false) := rfl
@[simp] theorem isi_bool_dK {b : Bool} {ks : List Key} {xs : List D} : gIsi .bool (.dK b ks xs) = .ok (.bl false) := rfl
@[simp] theorem isi_bool_obj {b : Bool} {c : Str} {ks : List Str} {xs : List D} : gIsi .bool (.obj b c ks xs) = .ok (.bl false) := rfl
@[simp] theorem isi_str_non  : gIsi .str .non = .ok (.bl false) := rfl
@[simp] theorem isi_str_bl {b : Bool} : gIsi .str (.bl b) = .ok (.bl false) := rfl
@[simp] theorem isi_str_int {i : Int} : gIsi .str (.int i) = .ok (.bl false) := rfl
@[simp] theorem isi_str_str {cs : List Nat} : gIsi .str (.str cs) = .ok (.bl true) := rfl
@[simp] theorem isi_str_lst {b : Bool} {xs : List D} : gIsi .str (.lst b xs) = .ok (.bl false) := rfl
@[simp] theorem isi_str_tup {xs : List D} : gIsi .str (.tup xs) = .ok (.bl false) := rfl
@[simp] theorem isi_str_dK {b : Bool} {ks : List Key} {xs : List D} : gIsi .str (.dK b ks xs) = .ok (.bl false) := rfl
@[simp] theorem isi_str_obj {b : Bool} {c : Str} {ks : List Str} {xs : List D} : gIsi .str (.obj b c ks xs) = .ok (.bl false) := rfl
@[simp] theorem isi_list_non  : gIsi .list .non = .ok (.bl false) := rfl
@[simp] theorem isi_list_bl {b : Bool} : gIsi .list (.bl b) = .ok (.bl false) := rfl
@[simp] theorem isi_list_int {i : Int} : gIsi .list (.int i) = .ok (.bl false) := rfl
@[simp] theorem isi_list_str {cs : List Nat} : gIsi .list (.str cs) = .ok (.bl false) := rfl
@[simp] theorem isi_list_lst {b : Bool} {xs : List D} : gIsi .list (.lst b xs) = .ok (.bl true) := rfl
@[simp] theorem isi_list_tup {xs : List D} : gIsi .list (.tup xs) = .ok (.bl false) := rfl
@[simp] theorem isi_list_dK {b : Bool} {ks : List Key} {xs : List D} : gIsi .list (.dK b ks xs) = .ok (.bl false) := rfl
@[simp] theorem isi_list_obj {b : Bool} {c : Str} {ks : List Str} {xs : List D} : gIsi .list (.obj b c ks xs) = .ok (.bl false) := rfl
@[simp] theorem isi_tuple_non  : gIsi .tuple .non = .ok (.bl false) := rfl
@[simp] theorem isi_tuple_bl {b : Bool} : gIsi .tuple (.bl b) = .ok (.bl false) := rfl
@[simp] theorem isi_tuple_int {i : Int} : gIsi .tuple (.int i) = .ok (.bl false) := rfl
@[simp] theorem isi_tuple_str {cs : List Nat} : gIsi .tuple (.str cs) = .ok (.bl false) := rfl
@[simp] theorem isi_tuple_lst {b : Bool} {xs : List D} : gIsi .tuple (.lst b xs) = .ok (.bl false) := rfl
@[simp] theorem isi_tuple_tup {xs : List D} : gIsi .tuple (.tup xs) = .ok (.bl true) := rfl
@[simp] theorem isi_tuple_dK {b : Bool} {ks : List Key} {xs : List D} : gIsi .tuple (.dK b ks xs) = .ok (.bl false) := rfl
@[simp] theorem isi_tuple_obj {b : Bool} {c : Str} {ks : List Str} {xs : List D} : gIsi .tuple (.obj b c ks xs) = .ok (.bl false) := rfl
@[simp] theorem isi_dict_non  : gIsi .dict .non = .ok (.bl false) := rfl
@[simp] theorem isi_dict_bl {b : Bool} : gIsi .dict (.bl b) = .ok (.bl false) := rfl
@[simp] theorem isi_dict_int {i : Int} : gIsi .dict (.int i) = .ok (.bl false) := rfl
@[simp] theorem isi_dict_str {cs : List Nat} : gIsi .dict (.str cs) = .ok (.bl false) := rfl
@[simp] theorem isi_dict_lst {b : Bool} {xs : List D} : gIsi .dict (.lst b xs) = .ok (.bl false) := rfl
@[simp] theorem isi_dict_tup {xs : List D} : gIsi .dict (.tup xs) = .ok (.bl false) := rfl
@[simp] theorem isi_dict_dK {b : Bool} {ks : List Key} {xs : List D} : gIsi .dict (.dK b ks xs) = .ok (.bl true) := rfl
@[simp] theorem isi_dict_obj {b : Bool} {c : Str} {ks : List Str} {xs : List D} : gIsi .dict (.obj b c ks xs) = .ok (.bl false) := rfl
@[simp] theorem plain_non : plainD .non = true := rfl
@[simp] theorem plain_bl {b : Bool} : plainD (.bl b) = true := rfl
@[simp] theorem plain_int {i : Int} : plainD (.int i) = true := rfl
@[simp] theorem plain_str {cs : List Nat} : plainD (.str cs) = true := rfl
@[simp] theorem plain_lst {b : Bool} {xs : List D} : plainD (.lst b xs) = plainDs xs := rfl
@[simp] theorem plain_tup {xs : List D} : plainD (.tup xs) = plainDs xs := rfl
@[simp] theorem plains_nil : plainDs [] = true := rfl
@[simp] theorem plains_cons {x : D} {xs : List D} : plainDs (x :: xs) = (plainD x && plainDs xs) := rfl
@[simp] theorem plains_ones {cs : List Nat} : plainDs (cs.map fun c => D.str [c]) = true := by
  induction cs with
  | nil => rfl
  | cons c cs ih => exact ih
@[simp] theorem plains_strs {cs : List (List Nat)} : plainDs (cs.map D.str) = true := by
  induction cs with
  | nil => rfl
  | cons c cs ih => exact ih
@[simp] theorem plains_ints {cs : List Int} : plainDs (cs.map D.int) = true := by
  induction cs with
  | nil => rfl
  | cons c cs ih => exact ih
@[simp] theorem dle_non {n : Nat} : dle n .non = true := by cases n <;> rfl
@[simp] theorem dle_bl {n : Nat} {b : Bool} : dle n (.bl b) = true := by cases n <;> rfl
@[simp] theorem dle_int {n : Nat} {i : Int} : dle n (.int i) = true := by cases n <;> rfl
@[simp] theorem dle_str {n : Nat} {cs : List Nat} : dle n (.str cs) = true := by cases n <;> rfl
@[simp] theorem dle_lst60 {b : Bool} {xs : List D} : dle 60 (.lst b xs) = dles 59 xs := rfl
@[simp] theorem dle_tup60 {xs : List D} : dle 60 (.tup xs) = dles 59 xs := rfl
@[simp] theorem dle_lst59 {b : Bool} {xs : List D} : dle 59 (.lst b xs) = dles 58 xs := rfl
@[simp] theorem dle_tup59 {xs : List D} : dle 59 (.tup xs) = dles 58 xs := rfl
@[simp] theorem dle_lst58 {b : Bool} {xs : List D} : dle 58 (.lst b xs) = dles 57 xs := rfl
@[simp] theorem dle_tup58 {xs : List D} : dle 58 (.tup xs) = dles 57 xs := rfl
@[simp] theorem dles_nil {n : Nat} : dles n [] = true := by cases n <;> rfl
@[simp] theorem dles_cons {n : Nat} {x : D} {xs : List D} : dles n (x :: xs) = (dle n x && dles n xs) := by cases n <;> rfl
@[simp] theorem dles_ones {n : Nat} {cs : List Nat} : dles n (cs.map fun c => D.str [c]) = true := by
  induction cs with
  | nil => exact dles_nil
  | cons c cs ih => rw [List.map_cons, dles_cons, ih, dle_str]; rfl
@[simp] theorem dles_strs {n : Nat} {cs : List (List Nat)} : dles n (cs.map D.str) = true := by
  induction cs with
  | nil => exact dles_nil
  | cons c cs ih => rw [List.map_cons, dles_cons, ih, dle_str]; rfl
@[simp] theorem dles_ints {n : Nat} {cs : List Int} : dles n (cs.map D.int) = true := by
  induction cs with
  | nil => exact dles_nil
  | cons c cs ih => rw [List.map_cons, dles_cons, ih, dle_int]; rfl
@[simp] theorem eqs_n {xs : List D} : eqDs xs [] = xs.isEmpty := by cases xs <;> rfl
@[simp] theorem eqOk_eq {x y : D} : eqOk x y = (plainD x && plainD y && dle 60 x) := rfl
@[simp] theorem eqs_nil : eqDs [] [] = true := rfl
@[simp] theorem eqs_cons {x y : D} {xs ys : List D} : eqDs (x :: xs) (y :: ys) = (eqD x y && eqDs xs ys) := rfl
@[simp] theorem eqs_nc {x : D} {xs : List D} : eqDs [] (x :: xs) = false := rfl
@[simp] theorem eqs_cn {x : D} {xs : List D} : eqDs (x :: xs) [] = false := rfl
@[simp] theorem eqD_bb {a b : Bool} : eqD (.bl a) (.bl b) = (a == b) := rfl
@[simp] theorem eqD_bi {a : Bool} {j : Int} : eqD (.bl a) (.int j) = ((if a then 1 else 0) == j) := rfl
@[simp] theorem eqD_ib {a : Int} {b : Bool} : eqD (.int a) (.bl b) = (a == (if b then 1 else 0)) := rfl
@[simp] theorem eqD_ii {a b : Int} : eqD (.int a) (.int b) = (a == b) := rfl
@[simp] theorem eqD_ss {x y : List Nat} : eqD (.str x) (.str y) = (x == y) := rfl
@[simp] theorem eqD_ll {a b : Bool} {x y : List D} : eqD (.lst a x) (.lst b y) = eqDs x y := rfl
@[simp] theorem eqD_tt {x y : List D} : eqD (.tup x) (.tup y) = eqDs x y := rfl
@[simp] theorem inD_eq {x : D} {xs : List D} : inD x xs = xs.any fun y => eqD y x := rfl
section
variable {b b2 : Bool} {i i2 : Int} {cs cs2 : List Nat} {xs xs2 : List D}
@[simp] theorem eqD_nn : eqD .non .non = true := rfl
@[simp] theorem eqD_non_bl : eqD .non (.bl b2) = false := rfl
@[simp] theorem eqD_non_int : eqD .non (.int i2) = false := rfl
@[simp] theorem eqD_non_str : eqD .non (.str cs2) = false := rfl
@[simp] theorem eqD_non_lst : eqD .non (.lst b2 xs2) = false := rfl
@[simp] theorem eqD_non_tup : eqD .non (.tup xs2) = false := rfl
@[simp] theorem eqD_bl_non : eqD (.bl b) .non = false := rfl
@[simp] theorem eqD_bl_str : eqD (.bl b) (.str cs2) = false := rfl
@[simp] theorem eqD_bl_lst : eqD (.bl b) (.lst b2 xs2) = false := rfl
@[simp] theorem eqD_bl_tup : eqD (.bl b) (.tup xs2) = false := rfl
@[simp] theorem eqD_int_non : eqD (.int i) .non = false := rfl
@[simp] theorem eqD_int_str : eqD (.int i) (.str cs2) = false := rfl
@[simp] theorem eqD_int_lst : eqD (.int i) (.lst b2 xs2) = false := rfl
@[simp] theorem eqD_int_tup : eqD (.int i) (.tup xs2) = false := rfl
@[simp] theorem eqD_str_non : eqD (.str cs) .non = false := rfl
@[simp] theorem eqD_str_bl : eqD (.str cs) (.bl b2) = false := rfl
@[simp] theorem eqD_str_int : eqD (.str cs) (.int i2) = false := rfl
@[simp] theorem eqD_str_lst : eqD (.str cs) (.lst b2 xs2) = false := rfl
@[simp] theorem eqD_str_tup : eqD (.str cs) (.tup xs2) = false := rfl
@[simp] theorem eqD_lst_non : eqD (.lst b xs) .non = false := rfl
@[simp] theorem eqD_lst_bl : eqD (.lst b xs) (.bl b2) = false := rfl
@[simp] theorem eqD_lst_int : eqD (.lst b xs) (.int i2) = false := rfl
@[simp] theorem eqD_lst_str : eqD (.lst b xs) (.str cs2) = false := rfl
@[simp] theorem eqD_lst_tup : eqD (.lst b xs) (.tup xs2) = false := rfl
@[simp] theorem eqD_tup_non : eqD (.tup xs) .non = false := rfl
@[simp] theorem eqD_tup_bl : eqD (.tup xs) (.bl b2) = false := rfl
@[simp] theorem eqD_tup_int : eqD (.tup xs) (.int i2) = false := rfl
@[simp] theorem eqD_tup_str : eqD (.tup xs) (.str cs2) = false := rfl
@[simp] theorem eqD_tup_lst : eqD (.tup xs) (.lst b2 xs2) = false := rfl
@[simp] theorem gNeg_eq : gNeg (.int i) = .ok (.int (-i)) := rfl
@[simp] theorem gCat_eq : gCat (.lst b xs) (.lst b2 xs2) = if xs.length + xs2.length ≤ 1000000 then .ok (.lst true (xs ++ xs2)) else .bad := rfl
@[simp] theorem gMulL_eq : gMulL (.lst b xs) (.int i) = if xs.length ≤ 1000 ∧ -1000 ≤ i ∧ i ≤ 1000 then .ok (.lst true (List.replicate i.toNat xs).flatten) else .bad := rfl
@[simp] theorem gMulT_eq : gMulT (.tup xs) (.int i) = if xs ≠ [] ∧ xs.length ≤ 1000 ∧ 1 ≤ i ∧ i ≤ 1000 then .ok (.tup (List.replicate i.toNat xs).flatten) else .bad := by
  unfold gMulT
  by_cases h : xs ≠ [] ∧ xs.length ≤ 1000 ∧ 1 ≤ i ∧ i ≤ 1000
  · rw [if_pos h]; exact if_pos h
  · rw [if_neg h]; exact if_neg h
@[simp] theorem gMx_eq : gMx [.int i, .int i2] = .ok (.int (if i2 > i then i2 else i)) := rfl
@[simp] theorem gMn_eq : gMn [.int i, .int i2] = .ok (.int (if i2 < i then i2 else i)) := rfl
@[simp] theorem gIsN_bb {neg : Bool} : gIsN neg (.bl b) (.bl b2) = .ok (.bl ((b == b2) != neg)) := rfl
@[simp] theorem gIsN_nn {neg : Bool} : gIsN neg .non .non = .ok (.bl (true != neg)) := rfl
@[simp] theorem gIsN_bn {neg : Bool} : gIsN neg (.bl b) .non = .ok (.bl (false != neg)) := rfl
@[simp] theorem gIsN_in {neg : Bool} : gIsN neg (.int i) .non = .ok (.bl (false != neg)) := rfl
@[simp] theorem gIsN_sn {neg : Bool} : gIsN neg (.str cs) .non = .ok (.bl (false != neg)) := rfl
@[simp] theorem gIsN_ln {neg : Bool} : gIsN neg (.lst b xs) .non = .ok (.bl (false != neg)) := rfl
@[simp] theorem gIsN_tn {neg : Bool} : gIsN neg (.tup xs) .non = .ok (.bl (false != neg)) := rfl
theorem WO_all {P : D → Prop} {bs : List Bool} (e : xs = bs.map D.bl) : WO' X (gAll (.lst b xs)) P ↔ P (.bl (bs.all id)) := by
  subst e
  show WO' X (match blsD (bs.map D.bl) with | some xs => _ | none => _) P ↔ _
  rw [blsD_map]; exact Iff.rfl
theorem WO_any {P : D → Prop} {bs : List Bool} (e : xs = bs.map D.bl) : WO' X (gAny (.lst b xs)) P ↔ P (.bl (bs.any id)) := by
  subst e
  show WO' X (match blsD (bs.map D.bl) with | some xs => _ | none => _) P ↔ _
  rw [blsD_map]; exact Iff.rfl
@[simp] theorem sT_eq {r : Env} {n : Nat} {gs : List D → Env → Out Env} : sT n gs (.tup xs) r = if xs.length = n then gs xs r else .bad := rfl
@[simp] theorem sCons_eq {r : Env} {d : D} {g : D → Env → Out Env} {gs : List D → Env → Out Env} : sCons g gs (d :: xs) r = (g d r).bind fun r1 => gs xs r1 := rfl
@[simp] theorem sNil_eq {r : Env} : sNil [] r = .ok r := rfl
end
end DL

namespace DL
open PySem L2
variable {X : Xc → Env → Prop}
/-- a loop's body, part by part -/
def WT' (X : Xc → Env → Prop) (o : SO) (N C B : Env → Prop) (R : D → Env → Prop) : Prop := match o with
  | .nx r => N r
  | .ct r => C r
  | .bk r => B r
  | .rt d r => R d r
  | .exn x r => X x r
  | .bad => False
section
variable {r : Env} {N C B : Env → Prop} {R : D → Env → Prop} {f g : FS} {fx : FX}
theorem WB_iff {o : SO} : WB' X o N B R ↔ WT' X o N N B R := by cases o <;> exact Iff.rfl
theorem WT_of {o : SO} (h : WS' X o N R) : WT' X o N C B R := by
  cases o <;> first | exact h | exact h.elim
theorem WT_iff {o : SO} (h : ∀ r, o ≠ .ct r) (h2 : ∀ r, o ≠ .bk r) : WT' X o N C B R ↔ WS' X o N R := by
  cases o with
  | ct r => exact (h r rfl).elim
  | bk r => exact (h2 r rfl).elim
  | _ => exact Iff.rfl
@[simp] theorem WT_seq : WT' X (sSeq f g r) N C B R ↔ WT' X (f r) (fun r1 => WT' X (g r1) N C B R) C B R := by
  unfold sSeq
  cases f r <;> exact Iff.rfl
@[simp] theorem WT_next : WT' X (sNext r) N C B R ↔ N r := Iff.rfl
@[simp] theorem WT_brk : WT' X (sBreak r) N C B R ↔ B r := Iff.rfl
@[simp] theorem WT_cnt : WT' X (sCont r) N C B R ↔ C r := Iff.rfl
@[simp] theorem WT_ret : WT' X (sRet fx r) N C B R ↔ WO' X (fx r) fun p => R p.1 p.2 := by
  unfold sRet
  cases fx r <;> exact Iff.rfl
@[simp] theorem WT_drop : WT' X (sDrop fx r) N C B R ↔ WO' X (fx r) fun p => N p.2 := by
  unfold sDrop
  cases fx r <;> exact Iff.rfl
@[simp] theorem WT_set {i : Nat} : WT' X (sSet i fx r) N C B R ↔ WO' X (fx r) fun p => i < p.2.length ∧ N (p.2.set i (some p.1)) := by
  rw [WT_iff, WS_set]
  · intro r'; unfold sSet; split
    · split <;> exact fun z => nomatch z
    · exact fun z => nomatch z
    · exact fun z => nomatch z
  · intro r'; unfold sSet; split
    · split <;> exact fun z => nomatch z
    · exact fun z => nomatch z
    · exact fun z => nomatch z
@[simp] theorem WT_put {i : Nat} {fk : FX} : WT' X (sPut i fx fk r) N C B R ↔ WO' X (fx r) fun p => ∃ d, p.2[i]? = some (some d) ∧ WO' X (fk p.2) fun q => ∃ k ds j, q.1 = .int k ∧ q.2[i]? = some (some (.lst true ds)) ∧ ixN ds.length k = some j ∧ N (q.2.set i (some (.lst true (ds.set j (frz p.1))))) := by
  have key : (∀ r', sPut i fx fk r ≠ .ct r') ∧ ∀ r', sPut i fx fk r ≠ .bk r' := by
    constructor <;> (intro r'; unfold sPut; repeat' split) <;> exact fun z => nomatch z
  rw [WT_iff key.1 key.2, WS_put]
@[simp] theorem WT_if {t : Env → Out (Bool × Env)} : WT' X (sIf t f g r) N C B R ↔ WO' X (t r) fun p => if p.1 = true then WT' X (f p.2) N C B R else WT' X (g p.2) N C B R := by
  unfold sIf
  cases t r with
  | ok p =>
    show WT' X (if p.1 = true then _ else _) N C B R ↔ if p.1 = true then _ else _
    split <;> exact Iff.rfl
  | _ => exact Iff.rfl
@[simp] theorem WS_forNil {tg : D → Env → Out Env} {body : FS} : WS' X (forS tg body [] r) N R ↔ N r := Iff.rfl
@[simp] theorem WS_forCons {tg : D → Env → Out Env} {body : FS} {d : D} {ds : List D} : WS' X (forS tg body (d :: ds) r) N R ↔ WO' XF (tg d r) fun r1 => WT' X (body r1) (fun r2 => WS' X (forS tg body ds r2) N R) (fun r2 => WS' X (forS tg body ds r2) N R) N R := by
  rw [forS]
  cases tg d r with
  | ok r1 =>
    show WS' X (match body r1 with | .nx r2 => _ | .ct r2 => _ | .bk r2 => _ | o => o) N R ↔ WT' X (body r1) _ _ _ _
    cases body r1 <;> exact Iff.rfl
  | _ => exact Iff.rfl
theorem WT_for {it : Env → Out (List D × Env)} {tg : D → Env → Out Env} {body : FS} : WT' X (sFor it tg body r) N C B R ↔ WO' X (it r) fun p => WS' X (forS tg body p.1 p.2) N R := by
  rw [WT_iff, WS_for]
  all_goals
    intro r'
    have key : ∀ (ds : List D) (r : Env), (∀ r', forS tg body ds r ≠ .ct r') ∧ ∀ r', forS tg body ds r ≠ .bk r' := by
      intro ds
      induction ds with
      | nil => intro r; exact ⟨fun _ z => (nomatch z), fun _ z => (nomatch z)⟩
      | cons d ds ih =>
        intro r
        rw [forS]
        split
        · split
          · exact ih _
          · exact ih _
          · exact ⟨fun _ z => (nomatch z), fun _ z => (nomatch z)⟩
          · rename_i h1 h2 h3
            exact ⟨fun r' z => h2 r' z, fun r' z => h3 r' z⟩
        · exact ⟨fun _ z => (nomatch z), fun _ z => (nomatch z)⟩
    unfold sFor
    cases it r with
    | ok p => first | exact (key _ _).1 r' | exact (key _ _).2 r'
    | _ => exact fun z => nomatch z
theorem WS_forT {tg : D → Env → Out Env} {body : FS} (I : List D → Env → Prop) {ds : List D} (h : I ds r) (h1 : ∀ d ds' r, I (d :: ds') r → WO' XF (tg d r) fun r1 => WT' X (body r1) (I ds') (I ds') N R) (h2 : ∀ r, I [] r → N r) : WS' X (forS tg body ds r) N R :=
  WS_forS I ds r h (fun d ds' r hi => (h1 d ds' r hi).mono fun r1 z => WB_iff.mpr z) h2
end
end DL

namespace DL
open PySem L2
variable {X : Xc → Env → Prop}
section
theorem WS_par {r : Env} {N : Env → Prop} {R : D → Env → Prop} {i j : Nat} {h : Env → Out (List D × Env)} : WS' X (sPar i j h r) N R ↔ WO' X (h r) fun p => ∃ a b, p.1 = [a, b] ∧ (i < p.2.length ∧ j < p.2.length) ∧ N ((p.2.set i (some a)).set j (some b)) := by
  unfold sPar
  cases h r with
  | ok p =>
    obtain ⟨l, q⟩ := p
    show WS' X (match l with | [a, b] => _ | _ => _) N R ↔ _
    split
    · rename_i a b
      show WS' X (if _ then _ else _) N R ↔ ∃ a' b', [a, b] = [a', b'] ∧ _
      by_cases hl : i < q.length ∧ j < q.length
      · rw [if_pos hl]; exact ⟨fun z => ⟨a, b, rfl, hl, z⟩, fun ⟨_, _, e, _, z⟩ => by cases e; exact z⟩
      · rw [if_neg hl]; exact ⟨fun z => z.elim, fun ⟨_, _, _, z, _⟩ => hl z⟩
    · rename_i hno
      exact ⟨fun z => z.elim, fun ⟨a, b, e, _⟩ => hno a b e⟩
  | _ => exact Iff.rfl
variable {r : Env} {N : Env → Prop} {R : D → Env → Prop} {f : FX}
theorem WS_aug {i : Nat} {gg : D → D → Out D} {d0 : D} (h : r[i]? = some (some d0)) (hs : isSc d0 = true) : WS' X (sAug i gg f r) N R ↔ WO' X (f r) fun p => WO' XF (gg d0 (frz p.1)) fun d => i < p.2.length ∧ N (p.2.set i (some d)) := by
  unfold sAug
  rw [h]
  simp only [hs, if_true]
  cases f r with
  | ok p =>
    show WS' X (match gg d0 (frz p.1) with | .ok d => _ | _ => _) N R ↔ WO' XF (gg d0 (frz p.1)) _
    cases gg d0 (frz p.1) with
    | ok d =>
      show WS' X (if i < p.2.length then _ else _) N R ↔ _
      by_cases hl : i < p.2.length
      · rw [if_pos hl]; exact ⟨fun z => ⟨hl, z⟩, fun z => z.2⟩
      · rw [if_neg hl]; exact ⟨fun z => z.elim, fun z => hl z.1⟩
    | _ => exact Iff.rfl
  | _ => exact Iff.rfl
end
section
variable {r : Env} {N C B : Env → Prop} {R : D → Env → Prop} {f : FX} {P : List D → Prop}
theorem WT_aug {i : Nat} {gg : D → D → Out D} {d0 : D} (h : r[i]? = some (some d0)) (hs : isSc d0 = true) : WT' X (sAug i gg f r) N C B R ↔ WO' X (f r) fun p => WO' XF (gg d0 (frz p.1)) fun d => i < p.2.length ∧ N (p.2.set i (some d)) := by
  have key : (∀ r', sAug i gg f r ≠ .ct r') ∧ ∀ r', sAug i gg f r ≠ .bk r' := by
    constructor <;> (intro r'; unfold sAug; repeat' split) <;> exact fun z => nomatch z
  rw [WT_iff key.1 key.2, WS_aug h hs]
theorem WT_par {i j : Nat} {h : Env → Out (List D × Env)} : WT' X (sPar i j h r) N C B R ↔ WO' X (h r) fun p => ∃ a b, p.1 = [a, b] ∧ (i < p.2.length ∧ j < p.2.length) ∧ N ((p.2.set i (some a)).set j (some b)) := by
  have key : (∀ r', sPar i j h r ≠ .ct r') ∧ ∀ r', sPar i j h r ≠ .bk r' := by
    constructor <;> (intro r'; unfold sPar; repeat' split) <;> exact fun z => nomatch z
  rw [WT_iff key.1 key.2, WS_par]
@[simp] theorem WO_iZpSS {fs : Env → Out (List D)} {a b : List Nat} (h : fs r = .ok [.str a, .str b]) : WO' X (iZp fs r) P ↔ P ((a.zip b).map fun p => .tup [.str [p.1], .str [p.2]]) := by
  unfold iZp
  rw [h]
  show P _ ↔ _
  rw [List.zip_map, List.map_map]
  exact Iff.rfl
@[simp] theorem WO_iZpLL {fs : Env → Out (List D)} {o o' : Bool} {a b : List D} (h : fs r = .ok [.lst o a, .lst o' b]) : WO' X (iZp fs r) P ↔ P ((a.zip b).map fun p => .tup [p.1, p.2]) := by
  unfold iZp
  rw [h]
  exact Iff.rfl
@[simp] theorem WO_iEnS {fs : Env → Out (List D)} {a : List Nat} (h : fs r = .ok [.str a]) : WO' X (iEn fs r) P ↔ P (a.zipIdx.map fun p => .tup [.int (p.2 : Nat), .str [p.1]]) := by
  unfold iEn
  rw [h]
  show P (enumD _) ↔ _
  unfold enumD
  rw [List.zipIdx_map, List.map_map]
  exact Iff.rfl
@[simp] theorem WO_iEnL {fs : Env → Out (List D)} {o : Bool} {a : List D} (h : fs r = .ok [.lst o a]) : WO' X (iEn fs r) P ↔ P (a.zipIdx.map fun p => .tup [.int (p.2 : Nat), p.1]) := by
  unfold iEn
  rw [h]
  exact Iff.rfl
end
end DL

namespace DL
open PySem L2
variable {X : Xc → Env → Prop}
/-! ### things of Lean as data -/
class Enc (α : Type) where
  enc : α → D
  dep : Nat
  frz_enc : ∀ a, frz (enc a) = enc a
  plain_enc : ∀ a, plainD (enc a) = true
  dle_enc : ∀ a n, dep ≤ n → dle n (enc a) = true
  eq_enc : ∀ a b, eqD (enc a) (enc b) = true ↔ a = b
open Enc (enc)
/-- never None -/
class EncN (α : Type) [Enc α] : Prop where
  ne : ∀ a : α, eqD (enc a) .non = false
  en : ∀ a : α, eqD .non (enc a) = false
  nn : ∀ a : α, enc a ≠ .non
/-- without lists -/
class EncS (α : Type) [Enc α] : Prop where
  shr_enc : ∀ a : α, shr (enc a) = false
structure Tx where
  cs : List Nat
deriving DecidableEq
structure T3 (α β γ : Type) where
  a : α
  b : β
  c : γ
deriving DecidableEq
section
variable {α β γ : Type} [Enc α] [Enc β] [Enc γ]
@[simp] theorem frz_enc (a : α) : frz (enc a) = enc a := Enc.frz_enc a
@[simp] theorem plain_enc (a : α) : plainD (enc a) = true := Enc.plain_enc a
@[simp] theorem shr_enc [EncS α] (a : α) : shr (enc a) = false := EncS.shr_enc a
theorem dle_enc {a : α} {n : Nat} (h : Enc.dep α ≤ n) : dle n (enc a) = true := Enc.dle_enc a n h
@[simp] theorem eqD_enc [DecidableEq α] (a b : α) : eqD (enc a) (enc b) = decide (a = b) := by
  rw [Bool.eq_iff_iff, Enc.eq_enc]; simp
@[simp] theorem frzs_enc (xs : List α) : frzs (xs.map enc) = xs.map enc := by
  rw [frzs_map, List.map_map]; exact List.map_congr_left fun a _ => frz_enc a
@[simp] theorem plains_enc (xs : List α) : plainDs (xs.map enc) = true := by
  induction xs with
  | nil => rfl
  | cons x xs ih => simp [ih]
@[simp] theorem shrs_enc [EncS α] (xs : List α) : shrs (xs.map enc) = false := by
  induction xs with
  | nil => rfl
  | cons x xs ih => simp [ih]
theorem dles_enc {n : Nat} (h : Enc.dep α ≤ n) (xs : List α) : dles n (xs.map enc) = true := by
  induction xs with
  | nil => rfl
  | cons x xs ih =>
    show (dle n (enc x) && dles n (xs.map enc)) = true
    rw [ih, Enc.dle_enc x n h]; rfl
theorem eqDs_enc' : ∀ xs ys : List α, eqDs (xs.map enc) (ys.map enc) = true ↔ xs = ys
  | [], [] => by simp [eqDs]
  | [], _ :: _ => by simp [eqDs]
  | _ :: _, [] => by simp [eqDs]
  | x :: xs, y :: ys => by
    show (eqD (enc x) (enc y) && eqDs (xs.map enc) (ys.map enc)) = true ↔ _
    rw [Bool.and_eq_true, Enc.eq_enc, eqDs_enc' xs ys, List.cons.injEq]
@[simp] theorem eqDs_enc [DecidableEq α] (xs ys : List α) : eqDs (xs.map enc) (ys.map enc) = decide (xs = ys) := by
  rw [Bool.eq_iff_iff, eqDs_enc']; simp
instance : Enc Int := ⟨.int, 0, fun _ => rfl, fun _ => rfl, fun _ n _ => by cases n <;> rfl, fun a b => by simp [eqD]⟩
instance : Enc Nat := ⟨fun n => .int n, 0, fun _ => rfl, fun _ => rfl, fun _ n _ => by cases n <;> rfl, fun a b => by simp [eqD]; omega⟩
instance : Enc Bool := ⟨.bl, 0, fun _ => rfl, fun _ => rfl, fun _ n _ => by cases n <;> rfl, fun a b => by simp [eqD]⟩
instance : Enc Tx := ⟨fun t => .str t.cs, 0, fun _ => rfl, fun _ => rfl, fun _ n _ => by cases n <;> rfl, fun ⟨a⟩ ⟨b⟩ => by simp [eqD]⟩
instance : Enc (List α) := ⟨fun xs => .lst false (xs.map enc), Enc.dep α + 1, fun xs => by show D.lst false (frzs _) = _; rw [frzs_enc], plains_enc, fun xs n h => by
  match n, h with
  | n + 1, h => exact dles_enc (by omega) xs, fun a b => by show eqDs _ _ = true ↔ _; rw [eqDs_enc']⟩
instance : Enc (α × β) := ⟨fun p => .tup [enc p.1, enc p.2], max (Enc.dep α) (Enc.dep β) + 1, fun p => by simp, fun p => by simp, fun p n h => by
  match n, h with
  | n + 1, h =>
    show (dle n (enc p.1) && (dle n (enc p.2) && true)) = true
    rw [dle_enc (by omega), dle_enc (by omega)]; rfl, fun a b => by
  show (eqD (enc a.1) (enc b.1) && (eqD (enc a.2) (enc b.2) && true)) = true ↔ _
  rw [Bool.and_true, Bool.and_eq_true, Enc.eq_enc, Enc.eq_enc]
  constructor
  · rintro ⟨h1, h2⟩; exact Prod.ext h1 h2
  · rintro rfl; exact ⟨rfl, rfl⟩⟩
instance : Enc (T3 α β γ) := ⟨fun p => .tup [enc p.a, enc p.b, enc p.c], max (max (Enc.dep α) (Enc.dep β)) (Enc.dep γ) + 1, fun p => by simp, fun p => by simp, fun p n h => by
  match n, h with
  | n + 1, h =>
    show (dle n (enc p.a) && (dle n (enc p.b) && (dle n (enc p.c) && true))) = true
    rw [dle_enc (by omega), dle_enc (by omega), dle_enc (by omega)]; rfl, fun a b => by
  show (eqD (enc a.a) (enc b.a) && (eqD (enc a.b) (enc b.b) && (eqD (enc a.c) (enc b.c) && true))) = true ↔ _
  rw [Bool.and_true, Bool.and_eq_true, Bool.and_eq_true, Enc.eq_enc, Enc.eq_enc, Enc.eq_enc]
  constructor
  · rintro ⟨h1, h2, h3⟩; cases a; cases b; cases h1; cases h2; cases h3; rfl
  · rintro rfl; exact ⟨rfl, rfl, rfl⟩⟩
instance : EncN Int := ⟨fun _ => rfl, fun _ => rfl, fun _ h => nomatch h⟩
instance : EncN Nat := ⟨fun _ => rfl, fun _ => rfl, fun _ h => nomatch h⟩
instance : EncN Bool := ⟨fun _ => rfl, fun _ => rfl, fun _ h => nomatch h⟩
instance : EncN Tx := ⟨fun _ => rfl, fun _ => rfl, fun _ h => nomatch h⟩
instance : EncN (List α) := ⟨fun _ => rfl, fun _ => rfl, fun _ h => nomatch h⟩
instance : EncN (α × β) := ⟨fun _ => rfl, fun _ => rfl, fun _ h => nomatch h⟩
instance : EncN (T3 α β γ) := ⟨fun _ => rfl, fun _ => rfl, fun _ h => nomatch h⟩
instance : EncS Int := ⟨fun _ => rfl⟩
instance : EncS Nat := ⟨fun _ => rfl⟩
instance : EncS Bool := ⟨fun _ => rfl⟩
instance : EncS Tx := ⟨fun _ => rfl⟩
instance [EncS α] [EncS β] : EncS (α × β) := ⟨fun p => by show (shr (enc p.1) || (shr (enc p.2) || false)) = false; simp⟩
instance [EncS α] [EncS β] [EncS γ] : EncS (T3 α β γ) := ⟨fun p => by show (shr (enc p.a) || (shr (enc p.b) || (shr (enc p.c) || false))) = false; simp⟩
instance [EncN α] : Enc (Option α) := ⟨fun o => match o with | some a => enc a | none => .non, Enc.dep α, fun o => by cases o <;> simp, fun o => by cases o <;> simp, fun o n h => by
  cases o with
  | none => cases n <;> rfl
  | some a => exact dle_enc h, fun a b => by
  cases a <;> cases b
  · simp [eqD]
  · simp [EncN.en]
  · simp [EncN.ne]
  · simp [Enc.eq_enc]⟩
instance [EncN α] [EncS α] : EncS (Option α) := ⟨fun o => by
  cases o with
  | none => rfl
  | some a => exact shr_enc a⟩
@[simp] theorem enc_int (i : Int) : enc i = .int i := rfl
@[simp] theorem enc_nat (i : Nat) : enc i = .int i := rfl
@[simp] theorem enc_bl (i : Bool) : enc i = .bl i := rfl
@[simp] theorem enc_tx (i : Tx) : enc i = .str i.cs := rfl
@[simp] theorem enc_list (xs : List α) : enc xs = .lst false (xs.map enc) := rfl
@[simp] theorem enc_pair (p : α × β) : enc p = .tup [enc p.1, enc p.2] := rfl
@[simp] theorem enc_t3 (p : T3 α β γ) : enc p = .tup [enc p.a, enc p.b, enc p.c] := rfl
@[simp] theorem enc_none [EncN α] : enc (none : Option α) = .non := rfl
@[simp] theorem enc_some [EncN α] (a : α) : enc (some a) = enc a := rfl
@[simp] theorem enc_ne [EncN α] (a : α) : enc a ≠ .non := EncN.nn a
@[simp] theorem inD_enc [DecidableEq α] (a : α) (xs : List α) : inD (enc a) (xs.map enc) = decide (a ∈ xs) := by
  unfold inD
  rw [List.any_map, Bool.eq_iff_iff]
  simp
@[simp] theorem atI_enc (xs : List α) (i : Int) : atI (xs.map enc) i = (atI xs i).map enc := by
  unfold atI
  rw [List.length_map]
  cases ixN xs.length i <;> simp
theorem atIk {β : Type} (xs : List β) (k : Nat) : atI xs (k : Int) = xs[k]? := by
  by_cases h : k < xs.length
  · rw [atI_pos (by omega) (by omega)]; simp
  · unfold atI
    have : ixN xs.length (k : Int) = none := by
      unfold ixN
      rw [if_pos (by omega), if_neg (by omega)]
    rw [this, List.getElem?_eq_none (by omega)]; rfl
end
end DL

namespace DL
open PySem L2 Enc
variable {X : Xc → Env → Prop}
section
variable {r : Env} {P : D → Prop} {α β : Type} [Enc α] [Enc β] {it : Env → Out (List D)} {vs : List Nat} {g : D → Env → Out Env} {tt : Env → Out Bool} {el : F}
theorem WO_cM (as : List α) (k : α → β) (h : WO' XF (it r) fun ds => ds = as.map enc) (hl : as.length ≤ 1000000) (h1 : ∀ a ∈ as, WO' XF (turn vs g tt el r (enc a)) fun o => o = some (enc (k a))) (hp : P (.lst true ((as.map k).map enc))) : WO' X (cLc it vs g tt el r) P :=
  WO_cLcM enc (fun a => enc (k a)) as h hl h1 (by rw [List.map_map] at hp; exact hp)
theorem WO_cF (as : List α) (t : α → Bool) (k : α → β) (h : WO' XF (it r) fun ds => ds = as.map enc) (hl : as.length ≤ 1000000) (h1 : ∀ a ∈ as, WO' XF (turn vs g tt el r (enc a)) fun o => o = if t a = true then some (enc (k a)) else none) (hp : P (.lst true (((as.filter t).map k).map enc))) : WO' X (cLc it vs g tt el r) P :=
  WO_cLcF enc t (fun a => enc (k a)) as h hl h1 (by rw [List.map_map] at hp; exact hp)
/-- only chosen -/
theorem WO_cS (as : List α) (t : α → Bool) (h : WO' XF (it r) fun ds => ds = as.map enc) (hl : as.length ≤ 1000000) (h1 : ∀ a ∈ as, WO' XF (turn vs g tt el r (enc a)) fun o => o = if t a = true then some (enc a) else none) (hp : P (.lst true ((as.filter t).map enc))) : WO' X (cLc it vs g tt el r) P :=
  WO_cLcF enc t enc as h hl h1 hp
theorem rng_enc (n : Nat) : rng 0 n = (List.range n).map enc := by
  unfold rng
  exact List.map_congr_left fun a _ => by simp
theorem zip_enc {a b : List Nat} : ((a.zip b).map fun p => D.tup [.str [p.1], .str [p.2]]) = ((a.zip b).map fun p => (Tx.mk [p.1], Tx.mk [p.2])).map enc := by
  rw [List.map_map]; rfl
theorem enum_enc {xs : List α} : ((xs.map enc).zipIdx.map fun p => D.tup [.int (p.2 : Nat), p.1]) = (xs.zipIdx.map fun p => (p.2, p.1)).map enc := by
  rw [List.zipIdx_map, List.map_map, List.map_map]; rfl
theorem enumS_enc {a : List Nat} : (a.zipIdx.map fun p => D.tup [.int (p.2 : Nat), .str [p.1]]) = (a.zipIdx.map fun p => (p.2, Tx.mk [p.1])).map enc := by
  rw [List.map_map]; rfl
@[simp] theorem dles_tx {n : Nat} (xs : List Tx) : dles n (xs.map enc) = true := dles_enc (Nat.zero_le _) xs
@[simp] theorem dles_nat {n : Nat} (xs : List Nat) : dles n (xs.map enc) = true := dles_enc (Nat.zero_le _) xs
@[simp] theorem dles_int {n : Nat} (xs : List Int) : dles n (xs.map enc) = true := dles_enc (Nat.zero_le _) xs
@[simp] theorem dles_bl {n : Nat} (xs : List Bool) : dles n (xs.map enc) = true := dles_enc (Nat.zero_le _) xs
end
end DL

namespace DL
open PySem L2
variable {X : Xc → Env → Prop}
section
variable {α β : Type} {P : D → Prop} {b : Bool}
@[simp] theorem frzs_map_f (f : α → D) (xs : List α) : frzs (xs.map f) = xs.map fun x => frz (f x) := by rw [frzs_map, List.map_map]; rfl
@[simp] theorem shrs_map_f (f : α → D) (xs : List α) : shrs (xs.map f) = xs.any fun x => shr (f x) := by rw [shrs_any, List.any_map]; rfl
theorem plainDs_all : ∀ xs : List D, plainDs xs = xs.all plainD
  | [] => rfl
  | x :: xs => by rw [plainDs, plainDs_all xs]; rfl
theorem dles_all (n : Nat) : ∀ xs : List D, dles n xs = xs.all (dle n)
  | [] => by cases n <;> rfl
  | x :: xs => by
    have : dles n (x :: xs) = (dle n x && dles n xs) := by cases n <;> rfl
    rw [this, dles_all n xs]; rfl
@[simp] theorem plainDs_map_f (f : α → D) (xs : List α) : plainDs (xs.map f) = xs.all fun x => plainD (f x) := by rw [plainDs_all, List.all_map]; rfl
@[simp] theorem dles_map_f (n : Nat) (f : α → D) (xs : List α) : dles n (xs.map f) = xs.all fun x => dle n (f x) := by rw [dles_all, List.all_map]; rfl
theorem blsD_f (f : α → Bool) (xs : List α) : blsD (xs.map fun x => .bl (f x)) = some (xs.map f) := by
  have := blsD_map (xs.map f)
  rw [List.map_map] at this
  exact this
theorem strsD_f (f : α → List Nat) (xs : List α) : strsD (xs.map fun x => .str (f x)) = some (xs.map f) := by
  have := strsD_map (xs.map f)
  rw [List.map_map] at this
  exact this
@[simp] theorem gAll_f (f : α → Bool) (xs : List α) : gAll (.lst b (xs.map fun x => .bl (f x))) = .ok (.bl (xs.all f)) := by
  show (match blsD (xs.map fun x => .bl (f x)) with | some xs => Out.ok (D.bl (xs.all id)) | none => .bad) = _
  rw [blsD_f]
  show Out.ok (D.bl ((xs.map f).all id)) = _
  rw [List.all_map]; rfl
@[simp] theorem gAny_f (f : α → Bool) (xs : List α) : gAny (.lst b (xs.map fun x => .bl (f x))) = .ok (.bl (xs.any f)) := by
  show (match blsD (xs.map fun x => .bl (f x)) with | some xs => Out.ok (D.bl (xs.any id)) | none => .bad) = _
  rw [blsD_f]
  show Out.ok (D.bl ((xs.map f).any id)) = _
  rw [List.any_map]; rfl
@[simp] theorem WO_join_f (f : α → Nat) (xs : List α) : WO' X (gJoin (.str []) (.lst b (xs.map fun x => .str [f x]))) P ↔ xs.length ≤ 1000000 ∧ P (.str (xs.map f)) := by
  have := WO_join0 (X := X) (P := P) (b := b) (cs := xs.map f)
  rw [List.map_map, List.length_map] at this
  exact this
theorem eqDs_map {f : α → D} {g : β → D} (E : α → β → Bool) (he : ∀ a b, eqD (f a) (g b) = E a b) : ∀ (xs : List α) (ys : List β), eqDs (xs.map f) (ys.map g) = (xs.length == ys.length && (xs.zip ys).all fun p => E p.1 p.2)
  | [], [] => rfl
  | [], _ :: _ => rfl
  | _ :: _, [] => rfl
  | a :: xs, b :: ys => by
    show (eqD (f a) (g b) && eqDs (xs.map f) (ys.map g)) = _
    rw [he, eqDs_map E he xs ys]
    simp
    cases E a b <;> cases (xs.length == ys.length) <;> simp
end
/-! zip, enumerate -/
def zpD : List D → Out (List D) := fun ds => match ds with
  | [x, y] => match seqD x, seqD y with
    | some xs, some ys => .ok ((xs.zip ys).map fun p => .tup [p.1, p.2])
    | _, _ => .bad
  | _ => .bad
def enD : List D → Out (List D) := fun ds => match ds with
  | [x] => match seqD x with
    | some xs => .ok (enumD xs)
    | none => .bad
  | _ => .bad
section
variable {r : Env} {fs : Env → Out (List D)} {b b' : Bool}
@[simp] theorem iZp_eq : iZp fs r = (fs r).bind zpD := rfl
@[simp] theorem iEn_eq : iEn fs r = (fs r).bind enD := rfl
@[simp] theorem zpD_SS {a c : List Nat} : zpD [.str a, .str c] = .ok ((a.zip c).map fun p => .tup [.str [p.1], .str [p.2]]) := by
  show Out.ok _ = _
  rw [List.zip_map, List.map_map]; rfl
@[simp] theorem zpD_LL {a c : List D} : zpD [.lst b a, .lst b' c] = .ok ((a.zip c).map fun p => .tup [p.1, p.2]) := rfl
@[simp] theorem zpD_LS {a : List D} {c : List Nat} : zpD [.lst b a, .str c] = .ok ((a.zip c).map fun p => .tup [p.1, .str [p.2]]) := by
  show Out.ok _ = _
  rw [List.zip_map_right, List.map_map]; rfl
@[simp] theorem enD_S {a : List Nat} : enD [.str a] = .ok (a.zipIdx.map fun p => .tup [.int (p.2 : Nat), .str [p.1]]) := by
  show Out.ok (enumD _) = _
  unfold enumD
  rw [List.zipIdx_map, List.map_map]; rfl
@[simp] theorem enD_L {a : List D} : enD [.lst b a] = .ok (a.zipIdx.map fun p => .tup [.int (p.2 : Nat), p.1]) := rfl
@[simp] theorem enD_T {a : List D} : enD [.tup a] = .ok (a.zipIdx.map fun p => .tup [.int (p.2 : Nat), p.1]) := rfl
end
/-! effects without a premise -/
section
variable {r : Env} {N C B : Env → Prop} {R : D → Env → Prop} {f : FX} {i j : Nat}
@[simp] theorem WO_io {n : Nat} {m : List D → Out (D × D)} {h : Env → Out (List D × Env)} {P : D × Env → Prop} : WO' X (xIO i n m h r) P ↔ ∃ d, r[i]? = some (some d) ∧ WO' X (h r) fun p => ∃ d0, p.2[i]? = some (some d0) ∧ p.1.length + 1 = n ∧ WO' (fun x r => ∃ d1, r = [some d1] ∧ X x (p.2.set i (some d1))) (m (d0 :: frzs p.1)) fun q => P (q.1, p.2.set i (some q.2)) := by
  constructor
  · intro h
    have : ∃ d, r[i]? = some (some d) := by
      unfold xIO at h
      split at h
      · exact ⟨_, by assumption⟩
      · exact h.elim
    obtain ⟨d, hd⟩ := this
    exact ⟨d, hd, (WO_xIO hd).mp h⟩
  · rintro ⟨d, hd, h⟩
    exact (WO_xIO hd).mpr h
@[simp] theorem WT_augE {gg : D → D → Out D} : WT' X (sAug i gg f r) N C B R ↔ ∃ d0, r[i]? = some (some d0) ∧ isSc d0 = true ∧ WO' X (f r) fun p => WO' XF (gg d0 (frz p.1)) fun d => i < p.2.length ∧ N (p.2.set i (some d)) := by
  constructor
  · intro h
    have : ∃ d, r[i]? = some (some d) ∧ isSc d = true := by
      unfold sAug at h
      split at h
      · split at h
        · exact ⟨_, by assumption, by assumption⟩
        · exact h.elim
      · exact h.elim
    obtain ⟨d, hd, hs⟩ := this
    exact ⟨d, hd, hs, (WT_aug hd hs).mp h⟩
  · rintro ⟨d, hd, hs, h⟩
    exact (WT_aug hd hs).mpr h
@[simp] theorem WS_augE {gg : D → D → Out D} : WS' X (sAug i gg f r) N R ↔ ∃ d0, r[i]? = some (some d0) ∧ isSc d0 = true ∧ WO' X (f r) fun p => WO' XF (gg d0 (frz p.1)) fun d => i < p.2.length ∧ N (p.2.set i (some d)) := by
  constructor
  · intro h
    have : ∃ d, r[i]? = some (some d) ∧ isSc d = true := by
      unfold sAug at h
      split at h
      · split at h
        · exact ⟨_, by assumption, by assumption⟩
        · exact h.elim
      · exact h.elim
    obtain ⟨d, hd, hs⟩ := this
    exact ⟨d, hd, hs, (WS_aug hd hs).mp h⟩
  · rintro ⟨d, hd, hs, h⟩
    exact (WS_aug hd hs).mpr h
@[simp] theorem isSc_int {n : Int} : isSc (.int n) = true := rfl
@[simp] theorem isSc_str {n : List Nat} : isSc (.str n) = true := rfl
theorem WS_parE {h : Env → Out (List D × Env)} : WS' X (sPar i j h r) N R ↔ WO' X (h r) fun p => ∃ a b, p.1 = [a, b] ∧ (i < p.2.length ∧ j < p.2.length) ∧ N ((p.2.set i (some a)).set j (some b)) := WS_par
theorem WT_parE {h : Env → Out (List D × Env)} : WT' X (sPar i j h r) N C B R ↔ WO' X (h r) fun p => ∃ a b, p.1 = [a, b] ∧ (i < p.2.length ∧ j < p.2.length) ∧ N ((p.2.set i (some a)).set j (some b)) := WT_par
@[simp] theorem WS_forE {it : Env → Out (List D × Env)} {tg : D → Env → Out Env} {body : FS} : WS' X (sFor it tg body r) N R ↔ WO' X (it r) fun p => WS' X (forS tg body p.1 p.2) N R := WS_for
@[simp] theorem WT_forE {it : Env → Out (List D × Env)} {tg : D → Env → Out Env} {body : FS} : WT' X (sFor it tg body r) N C B R ↔ WO' X (it r) fun p => WS' X (forS tg body p.1 p.2) N R := WT_for
/-- a loop by what holds ahead of each turn; the next turn is a letter -/
theorem for_inv {tg : D → Env → Out Env} {body : FS} {ds : List D} (I : List D → Env → Prop) (h : I ds r) (h1 : ∀ d ds' r (K : Env → Prop), I (d :: ds') r → (∀ r, I ds' r → K r) → WO' XF (tg d r) fun r1 => WT' X (body r1) K K N R) (h2 : ∀ r, I [] r → N r) : WS' X (forS tg body ds r) N R :=
  WS_forT I h (fun d ds' r hi => h1 d ds' r _ hi fun _ z => z) h2
/-- over things of Lean -/
theorem for_of {α : Type} {tg : D → Env → Out Env} {body : FS} (e : α → D) (I : List α → Env → Prop) (as : List α) (h : I as r) (h1 : ∀ a as' r (K : Env → Prop), I (a :: as') r → (∀ r, I as' r → K r) → WO' XF (tg (e a) r) fun r1 => WT' X (body r1) K K N R) (h2 : ∀ r, I [] r → N r) : WS' X (forS tg body (as.map e) r) N R := by
  refine WS_forT (fun ds r => ∃ as', ds = as'.map e ∧ I as' r) ⟨as, rfl, h⟩ ?_ ?_
  · rintro d ds r ⟨as', hd, hi⟩
    match as', hd, hi with
    | a :: as', hd, hi =>
      simp only [List.map_cons, List.cons.injEq] at hd
      obtain ⟨rfl, rfl⟩ := hd
      exact h1 a as' r _ hi fun r z => ⟨as', rfl, z⟩
  · rintro r ⟨as', hd, hi⟩
    cases as' with
    | nil => exact h2 r hi
    | cons a b => cases hd
theorem rng_map (n : Nat) : rng 0 n = (List.range n).map fun k => D.int (k : Nat) := by
  unfold rng
  exact List.map_congr_left fun a _ => by simp
end
/-! picked by a truth -/
@[simp] theorem gIx_pick {x y : D} {b : Bool} {c : Prop} [Decidable c] : gIx (.lst b [x, y]) (.int (if c then 1 else 0)) = .ok (if c then y else x) := by
  split <;> rfl
theorem atI_k {α : Type} {xs : List α} {k : Nat} (h : k < xs.length) : atI xs (k : Int) = some xs[k] := by
  rw [atI_pos (by omega) (by omega)]; simp [h]
theorem atI_get {α : Type} {xs : List α} {i : Int} (h0 : 0 ≤ i) (h : i < xs.length) : atI xs i = some (xs[i.toNat]'(by omega)) := by
  rw [atI_pos h0 h]; simp [show i.toNat < xs.length by omega]
theorem len_two {α β : Type} (f g : α → β) : ∀ xs : List α, (xs.flatMap fun h => [f h, g h]).length = 2 * xs.length
  | [] => rfl
  | x :: xs => by
    rw [List.flatMap_cons, List.length_append, len_two f g xs]
    show 2 + 2 * xs.length = 2 * (xs.length + 1)
    omega
@[simp] theorem atI_pick {α : Type} {x y : α} {c : Prop} [Decidable c] : atI [x, y] (if c then 1 else 0) = some (if c then y else x) := by
  split <;> rfl
@[simp] theorem sum_const {α : Type} (n : Nat) : ∀ xs : List α, (xs.map fun _ => n).sum = n * xs.length
  | [] => rfl
  | x :: xs => by rw [List.map_cons, List.sum_cons, sum_const n xs, List.length_cons, Nat.mul_succ]; omega
@[simp] theorem frzs_app (xs ys : List D) : frzs (xs ++ ys) = frzs xs ++ frzs ys := by simp [frzs_map]
@[simp] theorem shrs_app (xs ys : List D) : shrs (xs ++ ys) = (shrs xs || shrs ys) := by simp [shrs_any]
@[simp] theorem plainDs_app (xs ys : List D) : plainDs (xs ++ ys) = (plainDs xs && plainDs ys) := by simp [plainDs_all]
@[simp] theorem dles_app (n : Nat) (xs ys : List D) : dles n (xs ++ ys) = (dles n xs && dles n ys) := by simp [dles_all]
@[simp] theorem gInt_int {i : Int} : gInt (.int i) = .ok (.int i) := rfl
@[simp] theorem gInt_bl {b : Bool} : gInt (.bl b) = .ok (.int (if b = true then 1 else 0)) := rfl
end DL

namespace DL
open PySem L2
variable {X : Xc → Env → Prop}
section
variable {r : Env} {N C B : Env → Prop} {R : D → Env → Prop} {f g : FS} {fx : FX} {i j : Nat}
@[simp] theorem XF_eq {x : Xc} : XF x r ↔ False := Iff.rfl
/-! statement by statement: what follows is a letter -/
theorem WS_step (h : ∀ K : Env → Prop, (∀ r1, WS' X (g r1) N R → K r1) → WS' X (f r) K R) : WS' X (sSeq f g r) N R :=
  WS_seq.mpr (h _ fun _ z => z)
theorem WT_step (h : ∀ K : Env → Prop, (∀ r1, WT' X (g r1) N C B R → K r1) → WT' X (f r) K C B R) : WT' X (sSeq f g r) N C B R :=
  WT_seq.mpr (h _ fun _ z => z)
def twoD : List D → Out (D × D)
  | [a, b] => .ok (a, b)
  | _ => .bad
@[simp] theorem twoD_eq {a b : D} : twoD [a, b] = .ok (a, b) := rfl
theorem WO_two {P : D × D → Prop} {ds : List D} : WO' X (twoD ds) P ↔ ∃ a b, ds = [a, b] ∧ P (a, b) := by
  constructor
  · intro h
    match ds, h with
    | [a, b], h => exact ⟨a, b, rfl, h⟩
  · rintro ⟨a, b, rfl, h⟩; exact h
@[simp] theorem WS_parW {h : Env → Out (List D × Env)} : WS' X (sPar i j h r) N R ↔ WO' X (h r) fun p => WO' X (twoD p.1) fun ab => (i < p.2.length ∧ j < p.2.length) ∧ N ((p.2.set i (some ab.1)).set j (some ab.2)) := by
  rw [WS_par]
  constructor <;> refine fun z => z.mono fun p q => ?_
  · exact WO_two.mpr q
  · exact WO_two.mp q
@[simp] theorem WT_parW {h : Env → Out (List D × Env)} : WT' X (sPar i j h r) N C B R ↔ WO' X (h r) fun p => WO' X (twoD p.1) fun ab => (i < p.2.length ∧ j < p.2.length) ∧ N ((p.2.set i (some ab.1)).set j (some ab.2)) := by
  rw [WT_par]
  constructor <;> refine fun z => z.mono fun p q => ?_
  · exact WO_two.mpr q
  · exact WO_two.mp q
@[simp] theorem WO_xC {m : List D → Out D} {h : Env → Out (List D × Env)} {P : D × Env → Prop} : WO' X (xC m h r) P ↔ WO' X (h r) fun p => WO' (fun x _ => X x p.2) (m (frzs p.1)) fun d => P (d, p.2) := by
  unfold xC
  rw [WO_bind]
  constructor <;> refine fun z => z.mono fun p q => ?_
  · cases hm : m (frzs p.1) <;> rw [hm] at q <;> first | exact q | exact q.elim
  · cases hm : m (frzs p.1) <;> rw [hm] at q <;> first | exact q | exact q.elim
end
/-! slices of natural bounds -/
theorem cut_take {α : Type} (xs : List α) (k : Nat) : cut xs none (some (k : Int)) = xs.take k := by
  unfold cut
  rw [HT.sIx_nat]
  show (xs.drop 0).take (min k xs.length - 0) = _
  rw [List.drop_zero, Nat.sub_zero, ← List.take_take, List.take_length]
theorem cut_drop {α : Type} (xs : List α) (k : Nat) : cut xs (some (k : Int)) none = xs.drop k := by
  unfold cut
  rw [HT.sIx_nat]
  show (xs.drop (min k xs.length)).take (xs.length - min k xs.length) = _
  by_cases h : k ≤ xs.length
  · rw [Nat.min_eq_left h]
    exact List.take_of_length_le (by simp)
  · rw [Nat.min_eq_right (by omega), Nat.sub_self, List.take_zero, List.drop_eq_nil_of_le (by omega)]
theorem cut_one {α : Type} (xs : List α) : cut xs (some 1) none = xs.drop 1 := cut_drop xs 1
theorem cut_mid {α : Type} (xs : List α) (i j : Nat) : cut xs (some (i : Int)) (some (j : Int)) = (xs.drop i).take (j - i) := by
  unfold cut
  rw [HT.sIx_nat, HT.sIx_nat]
  by_cases h : i ≤ xs.length
  · rw [Nat.min_eq_left h]
    by_cases h2 : j ≤ xs.length
    · rw [Nat.min_eq_left h2]
    · rw [Nat.min_eq_right (by omega), List.take_of_length_le (by simp), List.take_of_length_le (by simp; omega)]
  · rw [List.drop_eq_nil_of_le (show xs.length ≤ min i xs.length by omega), List.drop_eq_nil_of_le (by omega)]; simp
@[simp] theorem frz_obj {b : Bool} {c : Str} {fs : List Str} {xs : List D} : frz (.obj b c fs xs) = .obj false c fs (frzs xs) := by simp [frz]
@[simp] theorem frz_dT {b : Bool} {ks : List (List Key)} {xs : List D} : frz (.dT b ks xs) = .dT false ks (frzs xs) := by simp [frz]
@[simp] theorem shr_obj {b : Bool} {c : Str} {fs : List Str} {xs : List D} : shr (.obj b c fs xs) = (!b || shrs xs) := by simp [shr]
@[simp] theorem shr_dT {b : Bool} {ks : List (List Key)} {xs : List D} : shr (.dT b ks xs) = (!b || shrs xs) := by simp [shr]
section
variable {r : Env} {N C B : Env → Prop} {R : D → Env → Prop} {f : FX}
@[simp] theorem sT_tup {n : Nat} {g : List D → Env → Out Env} {ds : List D} : sT n g (.tup ds) r = if ds.length = n then g ds r else .bad := rfl
@[simp] theorem sCons_cons {g : D → Env → Out Env} {h : List D → Env → Out Env} {d : D} {ds : List D} : sCons g h (d :: ds) r = (g d r).bind fun r1 => h ds r1 := rfl
@[simp] theorem sNil_nil : sNil [] r = .ok r := rfl
@[simp] theorem WS_asg {gg : D → Env → Out Env} : WS' X (sAsg f gg r) N R ↔ WO' X (f r) fun p => WO' XF (gg (frz p.1) p.2) N := by
  unfold sAsg
  cases f r with
  | ok p =>
    show WS' X (match gg (frz p.1) p.2 with | .ok r' => .nx r' | _ => .bad) N R ↔ WO' XF (gg (frz p.1) p.2) N
    cases gg (frz p.1) p.2 <;> exact Iff.rfl
  | exn x r' => exact Iff.rfl
  | bad => exact Iff.rfl
@[simp] theorem WT_asg {gg : D → Env → Out Env} : WT' X (sAsg f gg r) N C B R ↔ WO' X (f r) fun p => WO' XF (gg (frz p.1) p.2) N := by
  unfold sAsg
  cases f r with
  | ok p =>
    show WT' X (match gg (frz p.1) p.2 with | .ok r' => .nx r' | _ => .bad) N C B R ↔ WO' XF (gg (frz p.1) p.2) N
    cases gg (frz p.1) p.2 <;> exact Iff.rfl
  | exn x r' => exact Iff.rfl
  | bad => exact Iff.rfl
end
end DL

namespace DL
open PySem L2
variable {X : Xc → Env → Prop}
section
variable {r : Env} {N C B : Env → Prop} {R : D → Env → Prop} {f : FX} {i : Nat} {P : D × Env → Prop}
@[simp] theorem WO_app : WO' X (sApp i f r) P ↔ ∃ ds0, r[i]? = some (some (.lst true ds0)) ∧ WO' X (f r) fun p => ∃ ds, p.2[i]? = some (some (.lst true ds)) ∧ ds.length < 1000000 ∧ P (.non, p.2.set i (some (.lst true (ds ++ [p.1])))) := by
  have key : ∀ p : D × Env, WO' X (match p.2[i]? with | some (some (.lst true ds)) => if ds.length < 1000000 then .ok (.non, p.2.set i (some (.lst true (ds ++ [p.1])))) else .bad | _ => .bad : Out (D × Env)) P ↔ ∃ ds, p.2[i]? = some (some (.lst true ds)) ∧ ds.length < 1000000 ∧ P (.non, p.2.set i (some (.lst true (ds ++ [p.1])))) := by
    intro p
    split
    · rename_i ds h
      by_cases hl : ds.length < 1000000
      · rw [if_pos hl]
        exact ⟨fun z => ⟨ds, h, hl, z⟩, fun ⟨ds', h', _, z⟩ => by rw [h] at h'; cases h'; exact z⟩
      · rw [if_neg hl]
        exact ⟨fun z => z.elim, fun ⟨ds', h', l, z⟩ => by rw [h] at h'; cases h'; exact hl l⟩
    · rename_i hno
      exact ⟨fun z => z.elim, fun ⟨ds, h, _⟩ => hno ds h⟩
  unfold sApp
  split
  · rename_i ds0 h0
    rw [WO_bind]
    constructor
    · intro z
      exact ⟨ds0, h0, z.mono fun p => (key p).mp⟩
    · rintro ⟨_, _, z⟩
      exact z.mono fun p => (key p).mpr
  · rename_i hno
    exact ⟨fun z => z.elim, fun ⟨ds, h, _⟩ => hno ds h⟩
theorem WO_popAt : WO' X (sPopAt i f r) P ↔ ∃ ds0, r[i]? = some (some (.lst true ds0)) ∧ WO' X (f r) fun p => ∃ k ds j d, p.1 = .int k ∧ p.2[i]? = some (some (.lst true ds)) ∧ ixN ds.length k = some j ∧ ds.length ≤ 1000000 ∧ ds[j]? = some d ∧ P (frz d, p.2.set i (some (.lst true (ds.eraseIdx j)))) := by
  have key : ∀ p : D × Env, WO' X (match p.1, p.2[i]? with
    | .int k, some (some (.lst true ds)) => match ixN ds.length k with
      | some j => if ds.length ≤ 1000000 then popD i j p.2 else .bad
      | none => .bad
    | _, _ => .bad : Out (D × Env)) P ↔ ∃ k ds j d, p.1 = .int k ∧ p.2[i]? = some (some (.lst true ds)) ∧ ixN ds.length k = some j ∧ ds.length ≤ 1000000 ∧ ds[j]? = some d ∧ P (frz d, p.2.set i (some (.lst true (ds.eraseIdx j)))) := by
    intro p
    generalize hp : p.1 = p1
    generalize hq : p.2[i]? = q
    split
    · rename_i k ds
      constructor
      · intro z
        split at z
        · rename_i j hj
          split at z
          · rename_i hl
            unfold popD at z
            rw [hq] at z
            simp only [] at z
            split at z
            · rename_i d hd
              exact ⟨k, ds, j, d, rfl, rfl, hj, hl, hd, z⟩
            · exact z.elim
          · exact z.elim
        · exact z.elim
      · rintro ⟨k', ds', j, d, e1, e2, hj, hl, hd, z⟩
        cases e1
        cases e2
        rw [hj]
        simp only []
        rw [if_pos hl]
        unfold popD
        rw [hq]
        simp only []
        rw [hd]
        exact z
    · rename_i hno
      exact ⟨fun z => z.elim, fun ⟨k, ds, j, d, e1, e2, _⟩ => (hno k ds e1 e2).elim⟩
  unfold sPopAt
  split
  · rename_i ds0 h0
    rw [WO_bind]
    constructor
    · intro z
      exact ⟨ds0, h0, z.mono fun p => (key p).mp⟩
    · rintro ⟨_, _, z⟩
      exact z.mono fun p => (key p).mpr
  · rename_i hno
    exact ⟨fun z => z.elim, fun ⟨ds, h, _⟩ => hno ds h⟩
/-- while, by a measure -/
theorem while_inv {t : Env → Out (Bool × Env)} {body : FS} (I : Nat → Env → Prop) (step : ∀ m r (K : Env → Prop), I m r → (∀ m' r', m' < m → I m' r' → K r') → WO' X (t r) fun p => if p.1 = true then WT' X (body p.2) K K N R else N p.2) :
    ∀ (fuel m : Nat) (r : Env), m < fuel → I m r → WS' X (whileS t body fuel r) N R
  | 0, m, r, h, _ => absurd h (Nat.not_lt_zero m)
  | fuel + 1, m, r, h, hi => by
    have := step m r (fun r' => ∃ m', m' < m ∧ I m' r') hi fun m' r' h1 h2 => ⟨m', h1, h2⟩
    unfold whileS
    cases ht : t r with
    | ok p =>
      rw [ht] at this
      show WS' X (if p.1 = true then _ else _) N R
      replace this : if p.1 = true then WT' X (body p.2) (fun r' => ∃ m', m' < m ∧ I m' r') (fun r' => ∃ m', m' < m ∧ I m' r') N R else N p.2 := this
      by_cases hp : p.1 = true
      · rw [if_pos hp] at this ⊢
        cases hb : body p.2 with
        | nx r2 =>
          rw [hb] at this
          obtain ⟨m', h1, h2⟩ := this
          exact while_inv I step fuel m' r2 (by omega) h2
        | ct r2 =>
          rw [hb] at this
          obtain ⟨m', h1, h2⟩ := this
          exact while_inv I step fuel m' r2 (by omega) h2
        | bk r2 => rw [hb] at this; exact this
        | rt d r2 => rw [hb] at this; exact this
        | exn x r2 => rw [hb] at this; exact this
        | bad => rw [hb] at this; exact this.elim
      · rw [if_neg hp] at this ⊢
        exact this
    | exn x r' => rw [ht] at this; exact this
    | bad => rw [ht] at this; exact this.elim
end
/-! order, repr -/
@[simp] theorem gRepr_ok {d : D} (h : reprOk d = true) : gRepr d = .ok (.str (reprL d)) := if_pos h
theorem shortDs_all : ∀ xs : List D, shortDs xs = xs.all shortD
  | [] => rfl
  | x :: xs => by rw [shortDs, shortDs_all xs]; rfl
theorem bulkDs_sum : ∀ xs : List D, bulkDs xs = (xs.map fun x => bulkD x + 1).sum
  | [] => rfl
  | x :: xs => by rw [bulkDs, bulkDs_sum xs]; rfl
theorem bulkDs_le {xs : List D} {m k : Nat} (hl : xs.length ≤ m) (hb : ∀ x ∈ xs, bulkD x ≤ k) : bulkDs xs ≤ m * (k + 1) := by
  rw [bulkDs_sum]
  have : ∀ ys : List D, (∀ x ∈ ys, bulkD x ≤ k) → (ys.map fun x => bulkD x + 1).sum ≤ ys.length * (k + 1) := by
    intro ys
    induction ys with
    | nil => intro _; simp
    | cons y ys ih =>
      intro h
      have h1 := h y (List.mem_cons_self ..)
      have h2 := ih fun x hx => h x (List.mem_cons_of_mem _ hx)
      rw [List.map_cons, List.sum_cons, List.length_cons, Nat.succ_mul]
      omega
  exact Nat.le_trans (this xs hb) (Nat.mul_le_mul_right _ hl)
theorem WO_gPick {P : D → Prop} {g : D → D → Bool} {x y : D} : WO' X (gPick g [x, y]) P ↔ ordOk2 x y = true ∧ P (if g x y = true then y else x) := by
  show WO' X (if ordOk2 x y = true then _ else _) P ↔ _
  split
  · exact ⟨fun z => ⟨by assumption, z⟩, fun z => z.2⟩
  · exact ⟨fun z => z.elim, fun z => absurd z.1 (by assumption)⟩
/-- two pairs of whole numbers -/
theorem ltD_pair (a b c d : Int) : ltD (.tup [.int a, .int b]) (.tup [.int c, .int d]) = (decide (a < c) || (decide (a = c) && decide (b < d))) := by
  show W.dataLt (.tuple [.int a, .int b]) (.tuple [.int c, .int d]) = _
  rw [W.dataLt_tuple]
  by_cases h : a = c
  · subst h
    rw [W.dataLt_all_yes (by simp [W.alike]) (by simp [PyData.eqv])]
    by_cases h2 : b = d
    · subst h2
      rw [W.dataLt_all_yes (by simp [W.alike]) (by simp [PyData.eqv])]
      simp [W.keyToksAll, PyProof.Rows.lex_irrefl]
    · rw [W.dataLt_all_no (by simp [W.alike]) (by simp [PyData.eqv, h2]), W.dataLt_int]
      simp
  · rw [W.dataLt_all_no (by simp [W.alike]) (by simp [PyData.eqv, h]), W.dataLt_int]
    simp [h]
theorem ordOk_pair (a b c d : Int) : ordOk (.tup [.int a, .int b]) (.tup [.int c, .int d]) = true := by
  have h : W.alike (toPy (.tup [.int a, .int b])) (toPy (.tup [.int c, .int d])) = true := by
    simp [toPy, toPys, W.alike, W.alikeAll]
  simp only [ordOk, h, Bool.and_true]
  rfl
theorem ordOk2_pair (a b c d : Int) : ordOk2 (.tup [.int a, .int b]) (.tup [.int c, .int d]) = true := by
  simp [ordOk2, ordOk_pair]
end DL

namespace DL
open PySem L2
variable {X : Xc → Env → Prop} {r : Env} {N C B : Env → Prop} {R : D → Env → Prop} {g : FS} {P : D → Prop}
@[simp] theorem WS_raise {c : Str} : WS' X (sRaise c r) N R ↔ X ⟨c, [], []⟩ r := Iff.rfl
@[simp] theorem WT_raise {c : Str} : WT' X (sRaise c r) N C B R ↔ X ⟨c, [], []⟩ r := Iff.rfl
/-- what a handler makes of an exception -/
def XH (X : Xc → Env → Prop) (sub : Str → Option Bool) (i j : Nat) (N : Env → Prop) : Xc → Env → Prop := fun x r' => match sub x.cls with
  | some true => (i < r'.length ∧ j < r'.length ∧ x.fs.length = x.ds.length) ∧ N (((r'.set i none).set j (some (.exc x.cls x.fs x.ds))).set i none)
  | some false => X x r'
  | none => False
theorem XH_yes {sub : Str → Option Bool} {i j : Nat} {x : Xc} {r' : Env} (h : sub x.cls = some true) : XH X sub i j N x r' ↔ (i < r'.length ∧ j < r'.length ∧ x.fs.length = x.ds.length) ∧ N (((r'.set i none).set j (some (.exc x.cls x.fs x.ds))).set i none) := by
  unfold XH
  rw [h]
theorem XH_no {sub : Str → Option Bool} {i j : Nat} {x : Xc} {r' : Env} (h : sub x.cls = some false) : XH X sub i j N x r' ↔ X x r' := by
  unfold XH
  rw [h]
@[simp] theorem WS_try {sub : Str → Option Bool} {i j : Nat} : WS' X (sTry sub i j g r) N R ↔ WS' (XH X sub i j N) (g r) N R := by
  unfold sTry
  cases g r with
  | exn x r' =>
    show WS' X (match sub x.cls with | some true => _ | some false => _ | none => _) N R ↔ XH X sub i j N x r'
    unfold XH
    cases sub x.cls with
    | none => exact Iff.rfl
    | some b =>
      cases b with
      | false => exact Iff.rfl
      | true =>
        show WS' X (if _ then _ else _) N R ↔ _
        split
        · rename_i h; exact ⟨fun z => ⟨h, z⟩, fun z => z.2⟩
        · rename_i h; exact ⟨fun z => z.elim, fun z => h z.1⟩
  | _ => exact Iff.rfl
@[simp] theorem WT_try {sub : Str → Option Bool} {i j : Nat} : WT' X (sTry sub i j g r) N C B R ↔ WT' (XH X sub i j N) (g r) N C B R := by
  unfold sTry
  cases g r with
  | exn x r' =>
    show WT' X (match sub x.cls with | some true => _ | some false => _ | none => _) N C B R ↔ XH X sub i j N x r'
    unfold XH
    cases sub x.cls with
    | none => exact Iff.rfl
    | some b =>
      cases b with
      | false => exact Iff.rfl
      | true =>
        show WT' X (if _ then _ else _) N C B R ↔ _
        split
        · rename_i h; exact ⟨fun z => ⟨h, z⟩, fun z => z.2⟩
        · rename_i h; exact ⟨fun z => z.elim, fun z => h z.1⟩
  | _ => exact Iff.rfl
@[simp] theorem gIsX_exc {kit : Str → Option Bool} {c : Str} {fs : List Str} {xs : List D} : gIsX kit (.exc c fs xs) = match kit c with | some b => .ok (.bl b) | none => .bad := rfl
@[simp] theorem gNewL_lst {xs : List D} : gNewL (.lst true xs) = .ok .non := rfl
@[simp] theorem WO_cAppN {fa fb : F} : WO' X (cAppN fa fb r) P ↔ WO' X (fa r) fun d => ∃ ds, d = .lst true ds ∧ ds.length < 1000000 ∧ WO' X (fb r) fun _ => P .non := by
  unfold cAppN
  rw [WO_bind]
  constructor
  · intro h
    refine h.mono fun d q => ?_
    split at q
    · rename_i ds
      split at q
      · rename_i hl
        rw [WO_bind] at q
        exact ⟨ds, rfl, hl, q⟩
      · exact q.elim
    · exact q.elim
  · intro h
    refine h.mono fun d q => ?_
    obtain ⟨ds, rfl, hl, q⟩ := q
    show WO' X (if _ then _ else _) P
    rw [if_pos hl, WO_bind]
    exact q
@[simp] theorem shr_exc {c : Str} {fs : List Str} {xs : List D} : shr (.exc c fs xs) = shrs xs := rfl
@[simp] theorem frz_exc {c : Str} {fs : List Str} {xs : List D} : frz (.exc c fs xs) = .exc c fs (frzs xs) := rfl
/-- a comprehension with two fors, no ifs -/
theorem turns2_map {α : Type} {h : D → Out (List D)} {f : α → D} {k : α → List D} : ∀ (as : List α), (∀ a ∈ as, h (f a) = .ok (k a)) → turns2 h (as.map f) = .ok (as.flatMap k)
  | [], _ => rfl
  | a :: as, q => by
    show (h (f a)).bind _ = _
    rw [q a (by simp)]
    show (turns2 h (as.map f)).bind _ = _
    rw [turns2_map as fun x hx => q x (by simp [hx])]
    rfl
theorem WO_cLc2 {α : Type} {it it1 : Env → Out (List D)} {vs vs1 : List Nat} {g g1 : D → Env → Out Env} {tt tt1 : Env → Out Bool} {el : F} (f : α → D) (k : α → List D) (as : List α) (h : WO' XF (it r) fun ds => ds = as.map f) (hl : (as.flatMap k).length ≤ 1000000) (h1 : ∀ a ∈ as, WO' XF (turn2 vs g tt it1 vs1 g1 tt1 el r (f a)) fun o => o = k a) (hp : P (.lst true (as.flatMap k))) : WO' X (cLc2 it vs g tt it1 vs1 g1 tt1 el r) P := by
  have e : it r = .ok (as.map f) := h.eq
  unfold cLc2
  rw [e]
  show WO' X ((safe (turns2 _ (as.map f))).bind _) P
  rw [turns2_map as fun a ha => (h1 a ha).eq]
  show WO' X (if _ then _ else _) P
  rw [if_pos hl]
  exact hp
end DL

namespace DL
open PySem L2
variable {X : Xc → Env → Prop} {r : Env} {N C B : Env → Prop} {R : D → Env → Prop} {g : FS} {P : D → Prop} {fx : FX} {fo : F} {fs : Env → Out (List D)}
@[simp] theorem WS_fld {i : Nat} {c f : Str} : WS' X (sFldS i c f fx r) N R ↔ WO' X (fx r) fun p => ∃ fs xs, p.2[i]? = some (some (.obj true c fs xs)) ∧ fs.length < 1000 ∧ N (p.2.set i (some (.obj true c (putN f fs) (putX f p.1 fs xs)))) := by
  unfold sFldS
  cases fx r with
  | ok p =>
    show WS' X (match p.2[i]? with | some (some (.obj true c' fs xs)) => _ | _ => _) N R ↔ _
    constructor
    · intro z
      split at z
      · rename_i c' fs xs h
        split at z
        · rename_i hc
          obtain ⟨rfl, hl⟩ := hc
          exact ⟨fs, xs, h, hl, z⟩
        · exact z.elim
      · exact z.elim
    · rintro ⟨fs, xs, h, hl, z⟩
      rw [h]
      show WS' X (if c = c ∧ fs.length < 1000 then _ else _) N R
      rw [if_pos ⟨rfl, hl⟩]
      exact z
  | _ => exact Iff.rfl
@[simp] theorem cMt_eq {c m : Str} {n : Nat} {mm : List D → Out D} {dd : List D} : cMt c m n mm dd fo fs r = (fo r).bind fun d => if isOb c m d = true then (fs r).bind fun ds => chk n mm (d :: (ds ++ dd)) else .bad := rfl
@[simp] theorem lenRng_eq {j : Int} : gLenR (.int j) = if 0 ≤ j ∧ j.toNat ≤ 1000000 then .ok (.int j) else .bad := rfl
@[simp] theorem gCnt_eq {cs : List Nat} {c : Nat} : gCnt (.str cs) (.str [c]) = .ok (.int (cs.count c : Nat)) := rfl
theorem intsD_map : ∀ ns : List Int, intsD (ns.map D.int) = some ns
  | [] => rfl
  | n :: ns => by show (intsD (ns.map D.int)).map _ = _; rw [intsD_map ns]; rfl
theorem gSum_map {b : Bool} (ns : List Int) : gSum (.lst b (ns.map D.int)) = .ok (.int ns.sum) := by
  show (match intsD (ns.map D.int) with | some ns => Out.ok (D.int ns.sum) | none => .bad) = _
  rw [intsD_map]
@[simp] theorem xMt_eq {c m : Str} {n : Nat} {mm : List D → Out D} {dd : List D} {f : FX} {h : Env → Out (List D × Env)} : xMt c m n mm dd f h r = (f r).bind fun p => if isOb c m p.1 = true then (h p.2).bind fun q => (match chk n mm (frz p.1 :: (frzs q.1 ++ dd)) with
  | .ok d => .ok (d, q.2)
  | .exn x _ => .exn x q.2
  | .bad => .bad) else .bad := rfl
@[simp] theorem sL_lst {n : Nat} {g : List D → Env → Out Env} {b : Bool} {ds : List D} : sL n g (.lst b ds) r = if ds.length = n then g ds r else .bad := rfl
end DL

namespace DL
open PySem L2
variable {X : Xc → Env → Prop} {r : Env} {N C B : Env → Prop} {R : D → Env → Prop} {P : D → Prop} {fa fb : F}
@[simp] theorem cCatN_eq : cCatN fa fb r = (fa r).bind fun x => (fb r).bind fun y => match x, y with
  | .lst true xs, .lst true ys => if xs.length + ys.length ≤ 1000000 then .ok (.lst true (xs ++ ys)) else .bad
  | _, _ => .bad := rfl
theorem gSrt_map {b : Bool} {xs : List (List Nat)} (h : xs.length < 64) : gSrt (.lst b (xs.map .str)) = .ok (.lst true ((srtT xs).map .str)) := by
  show (match strsD (xs.map D.str) with | some ys => if ys.length < 64 then Out.ok (D.lst true ((srtT ys).map D.str)) else .bad | none => .bad) = _
  rw [strsD_map]
  show (if xs.length < 64 then _ else _) = _
  rw [if_pos h]
theorem srtT_self {xs : List (List Nat)} (h : xs.Pairwise (· ≤ ·)) : srtT xs = xs := perm_sorted_eq (srtT_perm xs) (srtT_sorted xs) h
@[simp] theorem c2L_eq {g : D → D → Out D} : c2L g fa fb r = (fa r).bind fun a => if isLstB a = true then (fb r).bind fun b => g a b else .bad := rfl
@[simp] theorem isLst_eq {b : Bool} {xs : List D} : isLstB (.lst b xs) = true := rfl
theorem WO_clrP {i : Nat} {fp : Env → Out (List Step)} {P : D × Env → Prop} {π : List Step} {d : D} {ds : List D} (h1 : fp r = .ok π) (h2 : r[i]? = some (some d)) (h3 : getP π d = some (.lst true ds)) (h : P (.non, r.set i (some (setP π (.lst true []) d)))) : WO' X (sClrP i fp r) P := by
  unfold sClrP
  rw [h1, h2]
  simp only []
  rw [h3]
  exact h
theorem WO_appP {i : Nat} {fp : Env → Out (List Step)} {ns : List Nat} {f : F} {P : D × Env → Prop} {π : List Step} {d x : D} {es : List D} (h1 : fp r = .ok π) (h2 : r[i]? = some (some d)) (h3 : f (view ns r) = .ok x) (hx : shr x = false) (h4 : getP π d = some (.lst true es)) (hl : es.length < 1000000) (h : P (.non, r.set i (some (setP π (.lst true (es ++ [x])) d)))) : WO' X (sAppP i fp ns f r) P := by
  unfold sAppP
  rw [h1, h2, h3]
  simp only [hx, Bool.false_eq_true, if_false]
  rw [h4, h2]
  simp only []
  rw [h4]
  simp only [hl, if_true]
  exact h
end DL

namespace DL
open PySem L2
@[simp] theorem cLam_eq {m : Out D → Out D} {fb : F} {r : Env} : cLam m fb r = m (fb r) := rfl
theorem kind_exn {sub : Str → Option Bool} {N i j : Nat} {g0 g1 : FS} {r1 : Env} {x : Xc} {rr : Env} (h0 : g0 (List.replicate N none) = .nx r1) (hn : noV r1 = true) (hs : sub x.cls = some true) (hi : i < r1.length) (hj : j < r1.length) (hl : x.fs.length = x.ds.length) : mKind sub N i j g0 g1 (.exn x rr) = finS (g1 (((r1.set i none).set j (some (.exc x.cls x.fs x.ds))).set i none)) := by
  unfold mKind
  rw [h0]
  simp only [hn, hs, hi, hj, hl, and_self, if_true]
theorem kind_ok {sub : Str → Option Bool} {N i j : Nat} {g0 g1 : FS} {r1 : Env} {d : D} (h0 : g0 (List.replicate N none) = .nx r1) (hn : noV r1 = true) : mKind sub N i j g0 g1 (.ok d) = finS (g1 r1) := by
  unfold mKind
  rw [h0]
  simp only [hn, if_true]
theorem WO_finS {X : Xc → Env → Prop} {o : SO} {P : D → Prop} : WO' X (finS o) P ↔ WS' (fun x _ => X x []) o (fun _ => P .non) fun d _ => P d := by cases o <;> exact Iff.rfl
end DL

namespace My
open PySem L2 DL

def top (i : Nat) : Stmt := PySem.Challenge.pw_everyhead_k19_no_single_heads.main.body.getD i (.Pass ⟨0, 0, 0, 0⟩)
structure Txt (K : PySem.W.Frag) (mg : Str → Option Value) (cm : Cm) : Prop where
  hk : K = cm.K
  hC : CmOk cm
  n_len : mg "len" = none
  n_range : mg "range" = none
  n_enumerate : mg "enumerate" = none
  n_min : mg "min" = none
  n_max : mg "max" = none
  n_isinstance : mg "isinstance" = none
  n_int : mg "int" = none
  n_bool : mg "bool" = none
  n_tuple : mg "tuple" = none
  n_str : mg "str" = none
  n_all : mg "all" = none
  n_zip : mg "zip" = none
  n_list : mg "list" = none
  x_NoPlace : ExcT K mg cm "NoPlace"
  x_NoHead : ExcT K mg cm "NoHead"
  g_HeadError : mg "HeadError" = some (.ref (cm.cl "HeadError"))
  em_NoHead_HeadError : PySem.W.exmOne K (.ref (cm.cl "NoHead")) (.ref (cm.cl "HeadError")) = some true
  em_NoPlace_HeadError : PySem.W.exmOne K (.ref (cm.cl "NoPlace")) (.ref (cm.cl "HeadError")) = some true
  ec_NoHead : ExcC K (cm.cl "NoHead")
  ki_NoHead_ValueError : PySem.W.kitOne K (.ref (cm.cl "NoHead")) (.type "ValueError") = some true
  ec_NoPlace : ExcC K (cm.cl "NoPlace")
  ki_NoPlace_ValueError : PySem.W.kitOne K (.ref (cm.cl "NoPlace")) (.type "ValueError") = some true
  n_ValueError : mg "ValueError" = none
  ka_NoHead_NoNet_NoRule_NoWay : PySem.W.kitAny K (.ref (cm.cl "NoHead")) [(.ref (cm.cl "NoNet")), (.ref (cm.cl "NoRule")), (.ref (cm.cl "NoWay"))] = some false
  ka_NoPlace_NoNet_NoRule_NoWay : PySem.W.kitAny K (.ref (cm.cl "NoPlace")) [(.ref (cm.cl "NoNet")), (.ref (cm.cl "NoRule")), (.ref (cm.cl "NoWay"))] = some false
  g_NoWay : mg "NoWay" = some (.ref (cm.cl "NoWay"))
  g_NoRule : mg "NoRule" = some (.ref (cm.cl "NoRule"))
  g_NoNet : mg "NoNet" = some (.ref (cm.cl "NoNet"))
  ki_NoHead_NoHead : PySem.W.kitOne K (.ref (cm.cl "NoHead")) (.ref (cm.cl "NoHead")) = some true
  ki_NoPlace_NoHead : PySem.W.kitOne K (.ref (cm.cl "NoPlace")) (.ref (cm.cl "NoHead")) = some false
  g_NoHead : mg "NoHead" = some (.ref (cm.cl "NoHead"))
  ki_NoHead_NoPlace : PySem.W.kitOne K (.ref (cm.cl "NoHead")) (.ref (cm.cl "NoPlace")) = some false
  ki_NoPlace_NoPlace : PySem.W.kitOne K (.ref (cm.cl "NoPlace")) (.ref (cm.cl "NoPlace")) = some true
  g_NoPlace : mg "NoPlace" = some (.ref (cm.cl "NoPlace"))
  c_STAR : ∃ t, mg "STAR" = some (.str ⟨[42].toArray⟩ t)
abbrev s__law_cell_at : Stmt := top 28
abbrev N__law_cell_at : List Str := ["_law_script", "_law_k"]
theorem sc__law_cell_at : FnScope N__law_cell_at ["_law_script", "_law_k"] (defScope s__law_cell_at) := ⟨rfl, rfl, rfl, by decide +kernel, rfl, by decide +kernel, by decide +kernel⟩
def g__law_cell_at : FS :=
    (sSeq (sIf (liftT [0, 1] (tB (c2 gLt (cV 1) (cA (g1 gLen) (aCons (cV 0) aNil))))) (sRet (lift [0, 1] (c2 gIx (cV 0) (cV 1)))) sNext)
    (sRet (lift [] (cK (.int 0)))))
def m__law_cell_at : List D → Out D := runP 2 2 g__law_cell_at

abbrev s__law_pool : Stmt := top 29
abbrev N__law_pool : List Str := ["_law_script", "_law_k", "_law_cell", "_law_seed"]
theorem sc__law_pool : FnScope N__law_pool ["_law_script", "_law_k"] (defScope s__law_pool) := ⟨rfl, rfl, rfl, by decide +kernel, rfl, by decide +kernel, by decide +kernel⟩
def g__law_pool : FS :=
    (sSeq (sSet 2 (lift [0, 1] (cA (chk 2 m__law_cell_at) (aCons (cV 0) (aCons (cV 1) aNil)))))
    (sSeq (sSet 3 (lift [1, 2] (c2 gModI (c2 gMulI (c2 gAddI (c2 gAddI (c2 gModI (cV 2) (cK (.int 2147483629))) (c2 gMulI (c2 gMulI (cK (.int 7919)) (cV 1)) (cV 1))) (cK (.int 1))) (cK (.int 48271))) (cK (.int 2147483647)))))
    (sSeq (sIf (liftT [2] (tB (c2 gLt (cV 2) (c2 gPowI (cK (.int 10)) (cK (.int 18)))))) (sSet 2 (lift [] (cK (.int 0)))) sNext)
    (sRet (lift [2, 3] (cLst (aCons (cV 2) (aCons (c2 gModI (c2 gMulI (cV 3) (cV 3)) (cK (.int 2147483629))) aNil))))))))
def m__law_pool : List D → Out D := runP 2 4 g__law_pool

abbrev s__law_take : Stmt := top 30
abbrev N__law_take : List Str := ["_law_pool_here", "_law_many", "_law_found"]
theorem sc__law_take : FnScope N__law_take ["_law_pool_here", "_law_many"] (defScope s__law_take) := ⟨rfl, rfl, rfl, by decide +kernel, rfl, by decide +kernel, by decide +kernel⟩
def g__law_take : FS :=
    (sSeq (sIf (liftT [0] (tB (c2 gGt (c2 gIx (cV 0) (cK (.int 0))) (cK (.int 0))))) (sSeq (sSet 2 (lift [0, 1] (c2 gModI (c2 gIx (cV 0) (cK (.int 0))) (cV 1))))
    (sSeq (sPut 0 (lift [0, 1] (c2 gFdvI (c2 gIx (cV 0) (cK (.int 0))) (cV 1))) (lift [] (cK (.int 0))))
    (sRet (lift [2] (cV 2))))) sNext)
    (sSeq (sPut 0 (lift [0] (c2 gModI (c2 gAddI (c2 gMulI (c2 gIx (cV 0) (cK (.int 1))) (cK (.int 48271))) (cK (.int 11))) (cK (.int 2147483647)))) (lift [] (cK (.int 1))))
    (sRet (lift [0, 1] (c2 gModI (c2 gFdvI (c2 gModI (c2 gMulI (c2 gIx (cV 0) (cK (.int 1))) (c2 gIx (cV 0) (cK (.int 1)))) (cK (.int 2147483629))) (cK (.int 64))) (cV 1))))))
def m__law_take : List D → Out (D × D) := runX 2 3 g__law_take

abbrev s__law_text : Stmt := top 31
abbrev N__law_text : List Str := ["_law_pool_here", "_law_width", "_law_signs", "_law_turn"]
theorem sc__law_text : FnScope N__law_text ["_law_pool_here", "_law_width", "_law_signs"] (defScope s__law_text) := ⟨rfl, rfl, rfl, by decide +kernel, rfl, by decide +kernel, by decide +kernel⟩
def g__law_text : FS :=
    (sRet (x2S gJoin (lift [] (cK (.str []))) (xLc (iXR1 (liftA [1] (aCons (cV 1) aNil))) [3] (sN 3) xYes (x2 gIx (lift [2] (cV 2)) (xIO 0 2 m__law_take (liftA [2] (aCons (cA (g1 gLen) (aCons (cV 2) aNil)) aNil)))))))
def m__law_text : List D → Out (D × D) := runX 3 4 g__law_text

abbrev s__law_pattern : Stmt := top 35
abbrev N__law_pattern : List Str := ["_law_pool_here", "_law_width", "_law_signs"]
theorem sc__law_pattern : FnScope N__law_pattern ["_law_pool_here", "_law_width"] (defScope s__law_pattern) := ⟨rfl, rfl, rfl, by decide +kernel, rfl, by decide +kernel, by decide +kernel⟩
def g__law_pattern : FS :=
    (sSeq (sSet 2 (x2 gIx (lift [] (cLst (aCons (cK (.str [48, 49, 42])) (aCons (cK (.str [42, 42, 42, 48, 49])) (aCons (cK (.str [48, 42])) (aCons (cK (.str [49, 42])) aNil)))))) (xIO 0 2 m__law_take (liftA [] (aCons (cK (.int 4)) aNil)))))
    (sRet (xIO 0 3 m__law_text (liftA [1, 2] (aCons (cV 1) (aCons (cV 2) aNil))))))
def m__law_pattern : List D → Out (D × D) := runX 2 3 g__law_pattern

abbrev s__law_rule : Stmt := top 36
abbrev N__law_rule : List Str := ["_law_pool_here", "_law_width", "_law_doors", "_law_door", "_law_outs", "_law_turn", "_law_by"]
theorem sc__law_rule : FnScope N__law_rule ["_law_pool_here", "_law_width", "_law_doors"] (defScope s__law_rule) := ⟨rfl, rfl, rfl, by decide +kernel, rfl, by decide +kernel, by decide +kernel⟩
def g__law_rule : FS :=
    (sSeq (sSet 3 (x2 gIx (xLst (xCons (lift [] (cK .non)) (xCons (lift [] (cK .non)) (xCons (xIO 0 2 m__law_take (liftA [2] (aCons (cV 2) aNil))) xNil)))) (xIO 0 2 m__law_take (liftA [] (aCons (cK (.int 3)) aNil)))))
    (sSeq (sSet 4 (lift [] (cLst aNil)))
    (sSeq (sFor (iXR1 (xCons (x2 gIx (lift [] (cLst (aCons (cK (.int 1)) (aCons (cK (.int 1)) (aCons (cK (.int 1)) (aCons (cK (.int 2)) (aCons (cK (.int 2)) (aCons (cK (.int 3)) (aCons (cK (.int 0)) aNil))))))))) (xIO 0 2 m__law_take (liftA [] (aCons (cK (.int 7)) aNil)))) xNil)) (sN 5) (sSeq (sSet 6 (x2 gIx (xLst (xCons (lift [1] (c2 gMulS (cK (.str [42])) (cV 1))) (xCons (xIO 0 3 m__law_text (liftA [1] (aCons (cV 1) (aCons (cK (.str [42, 42, 42, 48, 49])) aNil)))) xNil))) (xIO 0 2 m__law_take (liftA [] (aCons (cK (.int 2)) aNil)))))
    (sDrop (sApp 4 (xTup (xCons (xIO 0 2 m__law_take (liftA [2] (aCons (cV 2) aNil))) (xCons (lift [6] (cV 6)) xNil)))))))
    (sRet (xTup (xCons (lift [3] (cV 3)) (xCons (xIO 0 2 m__law_pattern (liftA [1] (aCons (cV 1) aNil))) (xCons (lift [4] (cV 4)) xNil))))))))
def m__law_rule : List D → Out (D × D) := runX 3 7 g__law_rule

abbrev s__law_net : Stmt := top 37
abbrev N__law_net : List Str := ["_law_pool_here", "_law_width", "_law_most", "_law_switches", "_law_turn", "_law_free", "_law_links", "_law_doors", "_law_rules", "_law_number", "_law_one", "_law_other", "_law_k", "_law_door"]
theorem sc__law_net : FnScope N__law_net ["_law_pool_here", "_law_width", "_law_most"] (defScope s__law_net) := ⟨rfl, rfl, rfl, by decide +kernel, rfl, by decide +kernel, by decide +kernel⟩
def g__law_net : FS :=
    (sSeq (sSet 3 (lift [] (cLst aNil)))
    (sSeq (sFor (iXR1 (xCons (x2 gAddI (lift [] (cK (.int 1))) (xIO 0 2 m__law_take (liftA [2] (aCons (cV 2) aNil)))) xNil)) (sN 4) (sSeq (sSet 7 (x2 gAddI (lift [] (cK (.int 1))) (xIO 0 2 m__law_take (liftA [] (aCons (cK (.int 3)) aNil)))))
    (sSeq (sSet 8 (xLc (iXR1 (xCons (xIO 0 2 m__law_take (liftA [] (aCons (cK (.int 5)) aNil))) xNil)) [12] (sN 12) xYes (xIO 0 3 m__law_rule (liftA [1, 7] (aCons (cV 1) (aCons (cV 7) aNil))))))
    (sSeq (sIf (xTB (x2 gGt (xIO 0 2 m__law_take (liftA [] (aCons (cK (.int 3)) aNil))) (lift [] (cK (.int 0))))) (sDrop (sApp 8 (xTup (xCons (lift [] (cK .non)) (xCons (lift [1] (c2 gMulS (cK (.str [42])) (cV 1))) (xCons (xLst (xCons (xTup (xCons (xIO 0 2 m__law_take (liftA [7] (aCons (cV 7) aNil))) (xCons (lift [1] (c2 gMulS (cK (.str [42])) (cV 1))) xNil))) xNil)) xNil)))))) sNext)
    (sDrop (sApp 3 (lift [7, 8] (cTup (aCons (cV 7) (aCons (cV 8) aNil))))))))))
    (sSeq (sSet 5 (lift [] (cLst aNil)))
    (sSeq (sFor (liftI [3] (iEn (aCons (cV 3) aNil))) (sT 2 (sCons (sN 9) (sCons (sN 10) sNil))) (sSet 5 (lift [5, 9, 10, 13] (c2 gCat (cV 5) (cFz (cLc (iR1 (aCons (c2 gIx (cV 10) (cK (.int 0))) aNil)) [13] (sN 13) tYes' (cTup (aCons (cV 9) (aCons (cV 13) aNil)))))))))
    (sSeq (sSet 6 (lift [] (cLst aNil)))
    (sSeq (whileS (xAnd (liftT [5] (tB (c2 gGt (cA (g1 gLen) (aCons (cV 5) aNil)) (cK (.int 1))))) (xTB (x2 gGt (xIO 0 2 m__law_take (liftA [] (aCons (cK (.int 4)) aNil))) (lift [] (cK (.int 0)))))) (sSeq (sSet 10 (sPopAt 5 (xIO 0 2 m__law_take (liftA [5] (aCons (cA (g1 gLen) (aCons (cV 5) aNil)) aNil)))))
    (sSeq (sSet 11 (sPopAt 5 (xIO 0 2 m__law_take (liftA [5] (aCons (cA (g1 gLen) (aCons (cV 5) aNil)) aNil)))))
    (sDrop (sApp 6 (lift [10, 11] (cTup (aCons (cA gMnD (aCons (cV 10) (aCons (cV 11) aNil))) (aCons (cA gMxD (aCons (cV 10) (aCons (cV 11) aNil))) aNil)))))))) 100000)
    (sRet (lift [1, 3, 6] (cTup (aCons (cV 1) (aCons (cV 3) (aCons (cV 6) aNil))))))))))))
def m__law_net : List D → Out (D × D) := runX 3 14 g__law_net

abbrev s__law_places : Stmt := top 38
abbrev N__law_places : List Str := ["_law_net_here", "_law_found", "_law_number", "_law_one", "_law_door"]
theorem sc__law_places : FnScope N__law_places ["_law_net_here"] (defScope s__law_places) := ⟨rfl, rfl, rfl, by decide +kernel, rfl, by decide +kernel, by decide +kernel⟩
def g__law_places : FS :=
    (sSeq (sSet 1 (lift [] (cLst aNil)))
    (sSeq (sFor (liftI [0] (iEn (aCons (c2 gIx (cV 0) (cK (.int 1))) aNil))) (sT 2 (sCons (sN 2) (sCons (sN 3) sNil))) (sSet 1 (lift [1, 2, 3, 4] (c2 gCat (cV 1) (cFz (cLc (iR1 (aCons (c2 gIx (cV 3) (cK (.int 0))) aNil)) [4] (sN 4) tYes' (cTup (aCons (cV 2) (aCons (cV 4) aNil)))))))))
    (sRet (lift [1] (cV 1)))))
def m__law_places : List D → Out D := runP 1 5 g__law_places

abbrev s_is_whole : Stmt := top 9
abbrev N_is_whole : List Str := ["thing"]
theorem sc_is_whole : FnScope N_is_whole ["thing"] (defScope s_is_whole) := ⟨rfl, rfl, rfl, by decide +kernel, rfl, by decide +kernel, by decide +kernel⟩
def g_is_whole : FS :=
    (sRet (lift [0] (cAnd (c1 (gIsi .int) (cV 0)) (cNot (c1 (gIsi .bool) (cV 0))))))
def m_is_whole : List D → Out D := runP 1 1 g_is_whole

abbrev s_is_below : Stmt := top 15
abbrev N_is_below : List Str := ["thing", "many"]
theorem sc_is_below : FnScope N_is_below ["thing", "many"] (defScope s_is_below) := ⟨rfl, rfl, rfl, by decide +kernel, rfl, by decide +kernel, by decide +kernel⟩
def g_is_below : FS :=
    (sRet (lift [0, 1] (cAnd (cFz (cA (chk 1 m_is_whole) (aCons (cV 0) aNil))) (c3 gLe gLt (cK (.int 0)) (cV 0) (cV 1)))))
def m_is_below : List D → Out D := runP 2 2 g_is_below

abbrev s_is_place : Stmt := top 16
abbrev N_is_place : List Str := ["switches", "thing"]
theorem sc_is_place : FnScope N_is_place ["switches", "thing"] (defScope s_is_place) := ⟨rfl, rfl, rfl, by decide +kernel, rfl, by decide +kernel, by decide +kernel⟩
def g_is_place : FS :=
    (sSeq (sIf (liftT [0, 1] (tOr (tNot (tB (c1 (gIsi .tuple) (cV 1)))) (tOr (tB (c2 gNe (cA (g1 gLen) (aCons (cV 1) aNil)) (cK (.int 2)))) (tNot (tB (cFz (cA (chk 2 m_is_below) (aCons (c2 gIx (cV 1) (cK (.int 0))) (aCons (cA (g1 gLen) (aCons (cV 0) aNil)) aNil))))))))) (sRet (lift [] (cK (.bl false)))) sNext)
    (sRet (lift [0, 1] (cA (chk 2 m_is_below) (aCons (c2 gIx (cV 1) (cK (.int 1))) (aCons (c2 gIx (c2 gIx (cV 0) (c2 gIx (cV 1) (cK (.int 0)))) (cK (.int 0))) aNil))))))
def m_is_place : List D → Out D := runP 2 2 g_is_place

abbrev s_look_at_place : Stmt := top 17
abbrev N_look_at_place : List Str := ["net", "place"]
theorem sc_look_at_place : FnScope N_look_at_place ["net", "place"] (defScope s_look_at_place) := ⟨rfl, rfl, rfl, by decide +kernel, rfl, by decide +kernel, by decide +kernel⟩
def g_look_at_place : FS :=
    (sIf (liftT [0, 1] (tNot (tB (cFz (cA (chk 2 m_is_place) (aCons (c2 gIx (cV 0) (cK (.int 1))) (aCons (cV 1) aNil))))))) (sRaise "NoPlace") sNext)
def m_look_at_place : List D → Out D := runP 2 2 g_look_at_place

abbrev s_is_of : Stmt := top 10
abbrev N_is_of : List Str := ["thing", "width", "signs", "sign"]
theorem sc_is_of : FnScope N_is_of ["thing", "width", "signs"] (defScope s_is_of) := ⟨rfl, rfl, rfl, by decide +kernel, rfl, by decide +kernel, by decide +kernel⟩
def g_is_of : FS :=
    (sRet (lift [0, 1, 2, 3] (cAnd (c1 (gIsi .str) (cV 0)) (cAnd (c2 gEq (cA (g1 gLen) (aCons (cV 0) aNil)) (cV 1)) (cA (g1 gAll) (aCons (cFz (cLc (iS (cV 0)) [3] (sN 3) tYes' (c2 (gIn false) (cV 3) (cV 2)))) aNil))))))
def m_is_of : List D → Out D := runP 3 4 g_is_of

abbrev s_is_head : Stmt := top 11
abbrev N_is_head : List Str := ["thing", "width"]
theorem sc_is_head : FnScope N_is_head ["thing", "width"] (defScope s_is_head) := ⟨rfl, rfl, rfl, by decide +kernel, rfl, by decide +kernel, by decide +kernel⟩
def g_is_head : FS :=
    (sRet (lift [0, 1] (cA (chk 3 m_is_of) (aCons (cV 0) (aCons (cV 1) (aCons (cK (.str [48, 49])) aNil))))))
def m_is_head : List D → Out D := runP 2 2 g_is_head

abbrev s_look_at_come : Stmt := top 23
abbrev N_look_at_come : List Str := ["net", "place", "head"]
theorem sc_look_at_come : FnScope N_look_at_come ["net", "place", "head"] (defScope s_look_at_come) := ⟨rfl, rfl, rfl, by decide +kernel, rfl, by decide +kernel, by decide +kernel⟩
def g_look_at_come : FS :=
    (sSeq (sDrop (lift [0, 1] (cA (chk 2 m_look_at_place) (aCons (cV 0) (aCons (cV 1) aNil)))))
    (sIf (liftT [0, 2] (tNot (tB (cFz (cA (chk 2 m_is_head) (aCons (cV 2) (aCons (c2 gIx (cV 0) (cK (.int 0))) aNil))))))) (sRaise "NoHead") sNext))
def m_look_at_come : List D → Out D := runP 3 3 g_look_at_come

abbrev s_fits : Stmt := top 12
abbrev N_fits : List Str := ["pattern", "head", "one", "sign"]
theorem sc_fits : FnScope N_fits ["pattern", "head"] (defScope s_fits) := ⟨rfl, rfl, rfl, by decide +kernel, rfl, by decide +kernel, by decide +kernel⟩
def g_fits : FS :=
    (sRet (lift [0, 1, 2, 3] (cA (g1 gAll) (aCons (cFz (cLc (iZp (aCons (cV 0) (aCons (cV 1) aNil))) [2, 3] (sT 2 (sCons (sN 2) (sCons (sN 3) sNil))) tYes' (cOr (c2 gEq (cV 2) (cK (.str [42]))) (c2 gEq (cV 2) (cV 3))))) aNil))))
def m_fits : List D → Out D := runP 2 4 g_fits

abbrev s_is_met : Stmt := top 20
abbrev N_is_met : List Str := ["rule", "door", "head"]
theorem sc_is_met : FnScope N_is_met ["rule", "door", "head"] (defScope s_is_met) := ⟨rfl, rfl, rfl, by decide +kernel, rfl, by decide +kernel, by decide +kernel⟩
def g_is_met : FS :=
    (sRet (lift [0, 1, 2] (cAnd (c2 (gIn false) (c2 gIx (cV 0) (cK (.int 0))) (cTup (aCons (cK .non) (aCons (cV 1) aNil)))) (cA (chk 2 m_fits) (aCons (c2 gIx (cV 0) (cK (.int 1))) (aCons (cV 2) aNil))))))
def m_is_met : List D → Out D := runP 3 3 g_is_met

abbrev s_number_met : Stmt := top 21
abbrev N_number_met : List Str := ["net", "place", "head", "number", "rule"]
theorem sc_number_met : FnScope N_number_met ["net", "place", "head"] (defScope s_number_met) := ⟨rfl, rfl, rfl, by decide +kernel, rfl, by decide +kernel, by decide +kernel⟩
def g_number_met : FS :=
    (sSeq (sFor (liftI [0, 1] (iEn (aCons (c2 gIx (c2 gIx (c2 gIx (cV 0) (cK (.int 1))) (c2 gIx (cV 1) (cK (.int 0)))) (cK (.int 1))) aNil))) (sT 2 (sCons (sN 3) (sCons (sN 4) sNil))) (sIf (liftT [1, 2, 4] (tB (cFz (cA (chk 3 m_is_met) (aCons (cV 4) (aCons (c2 gIx (cV 1) (cK (.int 1))) (aCons (cV 2) aNil))))))) (sRet (lift [3] (cV 3))) sNext))
    (sRet (lift [] (cK .non))))
def m_number_met : List D → Out D := runP 3 5 g_number_met

abbrev s_other_end : Stmt := top 18
abbrev N_other_end : List Str := ["net", "place", "one", "other"]
theorem sc_other_end : FnScope N_other_end ["net", "place"] (defScope s_other_end) := ⟨rfl, rfl, rfl, by decide +kernel, rfl, by decide +kernel, by decide +kernel⟩
def g_other_end : FS :=
    (sSeq (sFor (liftI [0] (iL (c2 gIx (cV 0) (cK (.int 2))))) (sT 2 (sCons (sN 2) (sCons (sN 3) sNil))) (sSeq (sIf (liftT [1, 2] (tB (c2 gEq (cV 1) (cV 2)))) (sRet (lift [3] (cV 3))) sNext)
    (sIf (liftT [1, 3] (tB (c2 gEq (cV 1) (cV 3)))) (sRet (lift [2] (cV 2))) sNext)))
    (sRet (lift [] (cK .non))))
def m_other_end : List D → Out D := runP 2 4 g_other_end

abbrev s_put : Stmt := top 13
abbrev N_put : List Str := ["pattern", "by", "own", "sign"]
theorem sc_put : FnScope N_put ["pattern", "by"] (defScope s_put) := ⟨rfl, rfl, rfl, by decide +kernel, rfl, by decide +kernel, by decide +kernel⟩
def g_put : FS :=
    (sRet (lift [0, 1, 2, 3] (c2S gJoin (cK (.str [])) (cFz (cLc (iZp (aCons (cV 0) (aCons (cV 1) aNil))) [2, 3] (sT 2 (sCons (sN 2) (sCons (sN 3) sNil))) tYes' (cIf (tB (c2 gEq (cV 3) (cK (.str [42])))) (cV 2) (cV 3)))))))
def m_put : List D → Out D := runP 2 4 g_put

abbrev s_led_by : Stmt := top 22
abbrev N_led_by : List Str := ["net", "switch", "out", "head", "other", "door", "by"]
theorem sc_led_by : FnScope N_led_by ["net", "switch", "out", "head"] (defScope s_led_by) := ⟨rfl, rfl, rfl, by decide +kernel, rfl, by decide +kernel, by decide +kernel⟩
def g_led_by : FS :=
    (sSeq (sAsg (lift [2] (cV 2)) (sT 2 (sCons (sN 5) (sCons (sN 6) sNil))))
    (sSeq (sSet 4 (lift [0, 1, 5] (cA (chk 2 m_other_end) (aCons (cV 0) (aCons (cTup (aCons (cV 1) (aCons (cV 5) aNil))) aNil)))))
    (sSeq (sIf (liftT [4] (tB (c2 (gIsN false) (cV 4) (cK .non)))) (sRet (lift [1, 3, 5, 6] (cTup (aCons (cK (.str [111, 117, 116])) (aCons (cTup (aCons (cV 1) (aCons (cV 5) aNil))) (aCons (cA (chk 2 m_put) (aCons (cV 3) (aCons (cV 6) aNil))) aNil)))))) sNext)
    (sRet (lift [3, 4, 6] (cTup (aCons (cK (.str [105, 110])) (aCons (cV 4) (aCons (cA (chk 2 m_put) (aCons (cV 3) (aCons (cV 6) aNil))) aNil)))))))))
def m_led_by : List D → Out D := runP 4 7 g_led_by

abbrev s_all_come : Stmt := top 25
abbrev N_all_come : List Str := ["net", "place", "head", "number", "out"]
theorem sc_all_come : FnScope N_all_come ["net", "place", "head"] (defScope s_all_come) := ⟨rfl, rfl, rfl, by decide +kernel, rfl, by decide +kernel, by decide +kernel⟩
def g_all_come : FS :=
    (sSeq (sSet 3 (lift [0, 1, 2] (cA (chk 3 m_number_met) (aCons (cV 0) (aCons (cV 1) (aCons (cV 2) aNil))))))
    (sSeq (sIf (liftT [3] (tB (c2 (gIsN false) (cV 3) (cK .non)))) (sRet (lift [] (cLst aNil))) sNext)
    (sRet (lift [0, 1, 2, 3, 4] (cLc (iL (c2 gIx (c2 gIx (c2 gIx (c2 gIx (c2 gIx (cV 0) (cK (.int 1))) (c2 gIx (cV 1) (cK (.int 0)))) (cK (.int 1))) (cV 3)) (cK (.int 2)))) [4] (sN 4) tYes' (cA (chk 4 m_led_by) (aCons (cV 0) (aCons (c2 gIx (cV 1) (cK (.int 0))) (aCons (cV 4) (aCons (cV 2) aNil))))))))))
def m_all_come : List D → Out D := runP 3 5 g_all_come

abbrev s_comes : Stmt := top 26
abbrev N_comes : List Str := ["net", "place", "head"]
theorem sc_comes : FnScope N_comes ["net", "place", "head"] (defScope s_comes) := ⟨rfl, rfl, rfl, by decide +kernel, rfl, by decide +kernel, by decide +kernel⟩
def g_comes : FS :=
    (sSeq (sDrop (lift [0, 1, 2] (cA (chk 3 m_look_at_come) (aCons (cV 0) (aCons (cV 1) (aCons (cV 2) aNil))))))
    (sRet (lift [0, 1, 2] (cA (chk 3 m_all_come) (aCons (cV 0) (aCons (cV 1) (aCons (cV 2) aNil)))))))
def m_comes : List D → Out D := runP 3 3 g_comes

abbrev s__law_fits : Stmt := top 32
abbrev N__law_fits : List Str := ["_law_pattern_here", "_law_head", "_law_k"]
theorem sc__law_fits : FnScope N__law_fits ["_law_pattern_here", "_law_head"] (defScope s__law_fits) := ⟨rfl, rfl, rfl, by decide +kernel, rfl, by decide +kernel, by decide +kernel⟩
def g__law_fits : FS :=
    (sRet (lift [0, 1, 2] (c2 gEq (cFz (cLc (iR1 (aCons (cA (g1 gLen) (aCons (cV 1) aNil)) aNil)) [2] (sN 2) (tB (c2 (gIn true) (c2 gIx (cV 0) (cV 2)) (cTup (aCons (cK (.str [42])) (aCons (c2 gIx (cV 1) (cV 2)) aNil))))) (cV 2))) (cFz (cLst aNil)))))
def m__law_fits : List D → Out D := runP 2 3 g__law_fits

abbrev s__law_rule_met : Stmt := top 40
abbrev N__law_rule_met : List Str := ["_law_net_here", "_law_place", "_law_head", "_law_number", "_law_rule_here"]
theorem sc__law_rule_met : FnScope N__law_rule_met ["_law_net_here", "_law_place", "_law_head"] (defScope s__law_rule_met) := ⟨rfl, rfl, rfl, by decide +kernel, rfl, by decide +kernel, by decide +kernel⟩
def g__law_rule_met : FS :=
    (sSeq (sFor (liftI [0, 1] (iEn (aCons (c2 gIx (c2 gIx (c2 gIx (cV 0) (cK (.int 1))) (c2 gIx (cV 1) (cK (.int 0)))) (cK (.int 1))) aNil))) (sT 2 (sCons (sN 3) (sCons (sN 4) sNil))) (sIf (liftT [1, 2, 4] (tAnd (tB (c2 (gIn false) (c2 gIx (cV 4) (cK (.int 0))) (cTup (aCons (cK .non) (aCons (c2 gIx (cV 1) (cK (.int 1))) aNil))))) (tB (cFz (cA (chk 2 m__law_fits) (aCons (c2 gIx (cV 4) (cK (.int 1))) (aCons (cV 2) aNil))))))) (sRet (lift [3] (cV 3))) sNext))
    (sRet (lift [] (cK .non))))
def m__law_rule_met : List D → Out D := runP 3 5 g__law_rule_met

abbrev s__law_across : Stmt := top 39
abbrev N__law_across : List Str := ["_law_net_here", "_law_place", "_law_one", "_law_other"]
theorem sc__law_across : FnScope N__law_across ["_law_net_here", "_law_place"] (defScope s__law_across) := ⟨rfl, rfl, rfl, by decide +kernel, rfl, by decide +kernel, by decide +kernel⟩
def g__law_across : FS :=
    (sSeq (sFor (liftI [0] (iL (c2 gIx (cV 0) (cK (.int 2))))) (sT 2 (sCons (sN 2) (sCons (sN 3) sNil))) (sIf (liftT [1, 2, 3] (tB (c2 (gIn false) (cV 1) (cTup (aCons (cV 2) (aCons (cV 3) aNil)))))) (sRet (lift [1, 2, 3] (c2 gIx (cFz (cLst (aCons (cV 2) (aCons (cV 3) aNil)))) (cA (g1 gInt) (aCons (c2 gEq (cV 1) (cV 2)) aNil))))) sNext))
    (sRet (lift [] (cK .non))))
def m__law_across : List D → Out D := runP 2 4 g__law_across

abbrev s__law_put : Stmt := top 34
abbrev N__law_put : List Str := ["_law_head", "_law_by", "_law_k", "_law_sign"]
theorem sc__law_put : FnScope N__law_put ["_law_head", "_law_by"] (defScope s__law_put) := ⟨rfl, rfl, rfl, by decide +kernel, rfl, by decide +kernel, by decide +kernel⟩
def g__law_put : FS :=
    (sRet (lift [0, 1, 2, 3] (c2S gJoin (cK (.str [])) (cFz (cLc (iEn (aCons (cV 1) aNil)) [2, 3] (sT 2 (sCons (sN 2) (sCons (sN 3) sNil))) tYes' (c2 gIx (cFz (cLst (aCons (cV 3) (aCons (c2 gIx (cV 0) (cV 2)) aNil)))) (cA (g1 gInt) (aCons (c2 gEq (cV 3) (cK (.str [42]))) aNil))))))))
def m__law_put : List D → Out D := runP 2 4 g__law_put

abbrev s__law_comes : Stmt := top 41
abbrev N__law_comes : List Str := ["_law_net_here", "_law_place", "_law_head", "_law_number", "_law_found", "_law_door", "_law_by", "_law_other"]
theorem sc__law_comes : FnScope N__law_comes ["_law_net_here", "_law_place", "_law_head"] (defScope s__law_comes) := ⟨rfl, rfl, rfl, by decide +kernel, rfl, by decide +kernel, by decide +kernel⟩
def g__law_comes : FS :=
    (sSeq (sSet 3 (lift [0, 1, 2] (cA (chk 3 m__law_rule_met) (aCons (cV 0) (aCons (cV 1) (aCons (cV 2) aNil))))))
    (sSeq (sIf (liftT [3] (tB (c2 (gIsN false) (cV 3) (cK .non)))) (sRet (lift [] (cLst aNil))) sNext)
    (sSeq (sSet 4 (lift [] (cLst aNil)))
    (sSeq (sFor (liftI [0, 1, 3] (iL (c2 gIx (c2 gIx (c2 gIx (c2 gIx (c2 gIx (cV 0) (cK (.int 1))) (c2 gIx (cV 1) (cK (.int 0)))) (cK (.int 1))) (cV 3)) (cK (.int 2))))) (sT 2 (sCons (sN 5) (sCons (sN 6) sNil))) (sSeq (sSet 7 (lift [0, 1, 5] (cA (chk 2 m__law_across) (aCons (cV 0) (aCons (cTup (aCons (c2 gIx (cV 1) (cK (.int 0))) (aCons (cV 5) aNil))) aNil)))))
    (sIf (liftT [7] (tB (c2 (gIsN false) (cV 7) (cK .non)))) (sDrop (sApp 4 (lift [1, 2, 5, 6] (cTup (aCons (cK (.str [111, 117, 116])) (aCons (cTup (aCons (c2 gIx (cV 1) (cK (.int 0))) (aCons (cV 5) aNil))) (aCons (cA (chk 2 m__law_put) (aCons (cV 2) (aCons (cV 6) aNil))) aNil))))))) (sDrop (sApp 4 (lift [2, 6, 7] (cTup (aCons (cK (.str [105, 110])) (aCons (cV 7) (aCons (cA (chk 2 m__law_put) (aCons (cV 2) (aCons (cV 6) aNil))) aNil))))))))))
    (sRet (lift [4] (cV 4)))))))
def m__law_comes : List D → Out D := runP 3 8 g__law_comes

abbrev s__law_kind : Stmt := top 42
abbrev N__law_kind : List Str := ["_law_call", "_law_kept", "e", "_law_kinds"]
theorem sc__law_kind : FnScope N__law_kind ["_law_call"] (defScope s__law_kind) := ⟨rfl, rfl, rfl, by decide +kernel, rfl, by decide +kernel, by decide +kernel⟩
def g0__law_kind : FS := (sSet 1 (lift [] (cK .non)))
def g1__law_kind : FS :=
    (sSeq (sIf (liftT [1] (tB (c2 (gIsN false) (cV 1) (cK .non)))) (sRet (lift [] (cK (.str [116, 111, 108, 100])))) sNext)
    (sSeq (sSet 3 (lift [1] (cLst (aCons (c1 (gIsX (tab [("NoPlace", true), ("NoHead", false)])) (cV 1)) (aCons (c1 (gIsX (tab [("NoPlace", false), ("NoHead", true)])) (cV 1)) (aCons (c1 (gIsX (tab [("NoPlace", false), ("NoHead", false)])) (cV 1)) aNil))))))
    (sSeq (sIf (liftT [1, 3] (tOr (tB (c2 gNe (c2L gCntL (cV 3) (cK (.bl true))) (cK (.int 1)))) (tNot (tB (c1 (gIsX (tab [("NoPlace", true), ("NoHead", true)])) (cV 1)))))) (sRet (lift [] (cK (.str [111, 116, 104, 101, 114])))) sNext)
    (sRet (lift [3] (c2 gIx (cFz (cLst (aCons (cK (.str [112, 108, 97, 99, 101])) (aCons (cK (.str [104, 101, 97, 100])) (aCons (cK (.str [111, 116, 104, 101, 114])) aNil))))) (c2L gIdxL (cV 3) (cK (.bl true)))))))))
def m__law_kind : Out D → Out D := mKind (tab [("NoPlace", true), ("NoHead", true)]) 4 2 1 g0__law_kind g1__law_kind

abbrev s_rule_met : Stmt := top 24
abbrev N_rule_met : List Str := ["net", "place", "head"]
theorem sc_rule_met : FnScope N_rule_met ["net", "place", "head"] (defScope s_rule_met) := ⟨rfl, rfl, rfl, by decide +kernel, rfl, by decide +kernel, by decide +kernel⟩
def g_rule_met : FS :=
    (sSeq (sDrop (lift [0, 1, 2] (cA (chk 3 m_look_at_come) (aCons (cV 0) (aCons (cV 1) (aCons (cV 2) aNil))))))
    (sRet (lift [0, 1, 2] (cA (chk 3 m_number_met) (aCons (cV 0) (aCons (cV 1) (aCons (cV 2) aNil)))))))
def m_rule_met : List D → Out D := runP 3 3 g_rule_met

abbrev s__law_both : Stmt := top 43
abbrev N__law_both : List Str := ["_law_net_here", "_law_place", "_law_head", "_law_found"]
theorem sc__law_both : FnScope N__law_both ["_law_net_here", "_law_place", "_law_head"] (defScope s__law_both) := ⟨rfl, rfl, rfl, by decide +kernel, rfl, by decide +kernel, by decide +kernel⟩
def g__law_both : FS :=
    (sSeq (sSet 3 (lift [0, 1, 2] (cLst (aCons (cLam m__law_kind (cA (chk 3 m_rule_met) (aCons (cV 0) (aCons (cV 1) (aCons (cV 2) aNil))))) aNil))))
    (sSeq (sDrop (sApp 3 (lift [0, 1, 2] (cLam m__law_kind (cA (chk 3 m_comes) (aCons (cV 0) (aCons (cV 1) (aCons (cV 2) aNil))))))))
    (sRet (lift [3] (cV 3)))))
def m__law_both : List D → Out D := runP 3 4 g__law_both

abbrev s_law : Stmt := top 44
abbrev N_law : List Str := ["_law_script", "_law_k", "_law_pool_here", "_law_width", "_law_net_here", "_law_places_here", "_law_place", "_law_head", "_law_last", "_law_nowhere", "_law_odd", "_law_thing"]
theorem sc_law : FnScope N_law ["_law_script"] (defScope s_law) := ⟨rfl, rfl, rfl, by decide +kernel, rfl, by decide +kernel, by decide +kernel⟩
def g_law : FS :=
    (sSeq (sFor (iXR1 (liftA [0] (aCons (cA gMx (aCons (cK (.int 1)) (aCons (cA gMn (aCons (cA (g1 gLen) (aCons (cV 0) aNil)) (aCons (cK (.int 20)) aNil))) aNil))) aNil))) (sN 1) (sSeq (sSet 2 (lift [0, 1] (cA (chk 2 m__law_pool) (aCons (cV 0) (aCons (cV 1) aNil)))))
    (sSeq (sSet 3 (x2 gAddI (lift [] (cK (.int 1))) (xIO 2 2 m__law_take (liftA [] (aCons (cK (.int 5)) aNil)))))
    (sSeq (sSet 4 (xIO 2 3 m__law_net (liftA [3] (aCons (cV 3) (aCons (cK (.int 4)) aNil)))))
    (sSeq (sSet 5 (lift [4] (cA (chk 1 m__law_places) (aCons (cV 4) aNil))))
    (sSeq (sSet 6 (x2 gIx (lift [5] (cV 5)) (xIO 2 2 m__law_take (liftA [5] (aCons (cA (g1 gLen) (aCons (cV 5) aNil)) aNil)))))
    (sSeq (sSet 7 (xIO 2 3 m__law_text (liftA [3] (aCons (cV 3) (aCons (cK (.str [48, 49])) aNil)))))
    (sSeq (sSet 8 (lift [5] (c2 gIx (cV 5) (c1 gNeg (cK (.int 1))))))
    (sSeq (sSet 9 (lift [8] (cLst (aCons (cK .non) (aCons (cK (.int 0)) (aCons (cTup aNil) (aCons (cLst (aCons (cK (.int 0)) (aCons (cK (.int 0)) aNil))) (aCons (cTup (aCons (cK (.int 0)) (aCons (cK (.int 0)) (aCons (cK (.int 0)) aNil)))) (aCons (cTup (aCons (c1 gNeg (cK (.int 1))) (aCons (cK (.int 0)) aNil))) (aCons (cTup (aCons (cK (.int 0)) (aCons (cK (.int 9)) aNil))) (aCons (cTup (aCons (cK (.bl true)) (aCons (cK (.int 0)) aNil))) (aCons (cTup (aCons (c2 gAddI (c2 gIx (cV 8) (cK (.int 0))) (cK (.int 1))) (aCons (cK (.int 0)) aNil))) aNil))))))))))))
    (sSeq (sSet 9 (lift [8, 9] (c2 gCat (cV 9) (cFz (cLst (aCons (cTup (aCons (c2 gIx (cV 8) (cK (.int 0))) (aCons (c2 gAddI (c2 gIx (cV 8) (cK (.int 1))) (cK (.int 1))) aNil))) (aCons (cTup (aCons (cK (.int 0)) (aCons (cK (.bl true)) aNil))) (aCons (cTup (aCons (cK (.int 0)) (aCons (cK (.bl false)) aNil))) (aCons (cTup (aCons (cLst (aCons (cK (.int 0)) aNil)) (aCons (cK (.int 0)) aNil))) (aCons (cTup (aCons (cK (.int 0)) (aCons (cLst (aCons (cK (.int 0)) aNil)) aNil))) (aCons (cTup (aCons (cK (.int 0)) (aCons (cK (.dK true [] [])) aNil))) aNil)))))))))))
    (sSeq (sSet 10 (lift [3, 7] (cLst (aCons (cK .non) (aCons (cK (.int 0)) (aCons (cK (.str [])) (aCons (c2 gAddS (cV 7) (cK (.str [48]))) (aCons (cSl gSlS (cV 7) (oSome (cK (.int 1))) oNone) (aCons (c2 gMulS (cK (.str [42])) (cV 3)) (aCons (c2 gMulS (cK (.str [50])) (cV 3)) (aCons (cA (g1 gList) (aCons (cV 7) aNil)) (aCons (cK (.bl true)) aNil))))))))))))
    (sSeq (sFor (liftI [9] (iL (cV 9))) (sN 11) (sSeq (sIf (liftT [4, 7, 11] (tB (c2 gNe (cFz (cA (chk 3 m__law_both) (aCons (cV 4) (aCons (cV 11) (aCons (cV 7) aNil))))) (cFz (cLst (aCons (cK (.str [112, 108, 97, 99, 101])) (aCons (cK (.str [112, 108, 97, 99, 101])) aNil))))))) (sRet (lift [] (cK (.bl false)))) sNext)
    (sIf (liftT [1, 4, 10, 11] (tB (c2 gNe (cFz (cA (chk 3 m__law_both) (aCons (cV 4) (aCons (cV 11) (aCons (c2 gIx (cV 10) (c2 gModI (cV 1) (cK (.int 9)))) aNil))))) (cFz (cLst (aCons (cK (.str [112, 108, 97, 99, 101])) (aCons (cK (.str [112, 108, 97, 99, 101])) aNil))))))) (sRet (lift [] (cK (.bl false)))) sNext)))
    (sSeq (sFor (liftI [10] (iL (cV 10))) (sN 11) (sIf (liftT [4, 6, 11] (tB (c2 gNe (cFz (cA (chk 3 m__law_both) (aCons (cV 4) (aCons (cV 6) (aCons (cV 11) aNil))))) (cFz (cLst (aCons (cK (.str [104, 101, 97, 100])) (aCons (cK (.str [104, 101, 97, 100])) aNil))))))) (sRet (lift [] (cK (.bl false)))) sNext))
    (sIf (liftT [4, 6, 7] (tB (c2 gNe (cFz (cA (chk 3 m_comes) (aCons (cV 4) (aCons (cV 6) (aCons (cV 7) aNil))))) (cFz (cA (chk 3 m__law_comes) (aCons (cV 4) (aCons (cV 6) (aCons (cV 7) aNil)))))))) (sRet (lift [] (cK (.bl false)))) sNext))))))))))))))
    (sRet (lift [] (cK (.bl true)))))
def m_law : List D → Out D := runP 1 12 g_law

section
variable [Tbs] {P : Program} {w : World} {K : PySem.W.Frag} {mg : Str → Option Value} {base : Heap} {cm : Cm}
set_option maxHeartbeats 4000000 in
theorem ok__law_cell_at (T : Txt K mg cm)  {f : Addr} {fd : FuncData} (Fu : Fun K "_law_cell_at" "_law_cell_at" s__law_cell_at f fd) (hm : mg "_law_cell_at" = some (.ref f)) (hb : Binds K fd ["_law_script", "_law_k"] []) : CallOk P w K mg base "_law_cell_at" 1 ["_law_script", "_law_k"] (spP cm 2 m__law_cell_at) :=
  mk_pure (k := 0) Fu sc__law_cell_at hm hb fun cdv A outer s H E hr =>
      (ds_cons (ds_if (xt_lift [0, 1] (dt_lt (de_var (pv 1)) (de_len T.hk (by rfl) T.n_len (da_cons (de_var (pv 0)) da_nil)))) (ds_one (ds_ret (xe_lift [0, 1] (de_item T.hk (de_var (pv 0)) (de_var (pv 1)))))) ds_nil)
      (ds_one (ds_ret (xe_lift [] de_int))))

set_option maxHeartbeats 4000000 in
theorem ok__law_pool (T : Txt K mg cm) (C__law_cell_at : CallOk P w K mg base "_law_cell_at" 1 ["_law_script", "_law_k"] (spP cm 2 m__law_cell_at)) {f : Addr} {fd : FuncData} (Fu : Fun K "_law_pool" "_law_pool" s__law_pool f fd) (hm : mg "_law_pool" = some (.ref f)) (hb : Binds K fd ["_law_script", "_law_k"] []) : CallOk P w K mg base "_law_pool" 2 ["_law_script", "_law_k"] (spP cm 2 m__law_pool) :=
  mk_pure (k := 1) Fu sc__law_pool hm hb fun cdv A outer s H E hr =>
      (ds_cons (ds_set 2 sc__law_pool.nd (xe_lift [0, 1] (de_fn C__law_cell_at (hr.mono (by decide)) pxB (da_cons (de_var (pv 0)) (da_cons (de_var (pv 1)) da_nil)))))
      (ds_cons (ds_set 3 sc__law_pool.nd (xe_lift [1, 2] (de_modI (de_mulI (de_addI (de_addI (de_modI (de_var (pv 2)) de_int) (de_mulI (de_mulI de_int (de_var (pv 1))) (de_var (pv 1)))) de_int) de_int) de_int)))
      (ds_cons (ds_if (xt_lift [2] (dt_lt (de_var (pv 2)) (de_powI de_int de_int))) (ds_one (ds_set 2 sc__law_pool.nd (xe_lift [] de_int))) ds_nil)
      (ds_one (ds_ret (xe_lift [2, 3] (de_lst (da_cons (de_var (pv 2)) (da_cons (de_modI (de_mulI (de_var (pv 3)) (de_var (pv 3))) de_int) da_nil)))))))))

set_option maxHeartbeats 4000000 in
theorem ok__law_take (T : Txt K mg cm)  {f : Addr} {fd : FuncData} (Fu : Fun K "_law_take" "_law_take" s__law_take f fd) (hm : mg "_law_take" = some (.ref f)) (hb : Binds K fd ["_law_pool_here", "_law_many"] []) : CallOk P w K mg base "_law_take" 1 ["_law_pool_here", "_law_many"] (spX cm 2 m__law_take) :=
  mk_io (k := 0) Fu sc__law_take hm hb fun cdv A outer s H E hr =>
      (ds_cons (ds_if (xt_lift [0] (dt_gt (de_item T.hk (de_var (pv 0)) de_int) de_int)) (ds_cons (ds_set 2 sc__law_take.nd (xe_lift [0, 1] (de_modI (de_item T.hk (de_var (pv 0)) de_int) (de_var (pv 1)))))
      (ds_cons (ds_put 0 (pv 0) (xe_lift [0, 1] (de_fdvI (de_item T.hk (de_var (pv 0)) de_int) (de_var (pv 1)))) (xe_lift [] de_int) (fun _ _ h1 h2 => ps_asg h1 (pg_sub (pv 0) h2 set_list)))
      (ds_one (ds_ret (xe_lift [2] (de_var (pv 2))))))) ds_nil)
      (ds_cons (ds_put 0 (pv 0) (xe_lift [0] (de_modI (de_addI (de_mulI (de_item T.hk (de_var (pv 0)) de_int) de_int) de_int) de_int)) (xe_lift [] de_int) (fun _ _ h1 h2 => ps_asg h1 (pg_sub (pv 0) h2 set_list)))
      (ds_one (ds_ret (xe_lift [0, 1] (de_modI (de_fdvI (de_modI (de_mulI (de_item T.hk (de_var (pv 0)) de_int) (de_item T.hk (de_var (pv 0)) de_int)) de_int) de_int) (de_var (pv 1))))))))

set_option maxHeartbeats 4000000 in
theorem ok__law_text (T : Txt K mg cm) (C__law_take : CallOk P w K mg base "_law_take" 1 ["_law_pool_here", "_law_many"] (spX cm 2 m__law_take)) {f : Addr} {fd : FuncData} (Fu : Fun K "_law_text" "_law_text" s__law_text f fd) (hm : mg "_law_text" = some (.ref f)) (hb : Binds K fd ["_law_pool_here", "_law_width", "_law_signs"] []) : CallOk P w K mg base "_law_text" 2 ["_law_pool_here", "_law_width", "_law_signs"] (spX cm 3 m__law_text) :=
  mk_io (k := 1) Fu sc__law_text hm hb fun cdv A outer s H E hr =>
      (ds_one (ds_ret (xe_join (xe_lift [] (de_str [])) (xe_lc rfl sc__law_text.nd (xi_range1 (by rfl) T.n_range (xa_lift [1] (da_cons (de_var (pv 1)) da_nil))) (blkOk_by (own := [("_law_turn", 3)]) (N := N__law_text) (sc := defScope s__law_text) (by decide +kernel)) rfl (fun _ _ _ _ _ => (xg_name 3 sc__law_text.nd)) (fun _ _ _ _ _ => xts_nil) (fun _ _ _ _ _ => (xe_ix ix_seq (o_ix T.hk) noEx_ix (fun _ _ => rfl) (xe_lift [2] (de_var (pv 2))) (xe_fio 0 C__law_take (hr.mono (by decide)) pass_none (pv 0) (xa_lift [2] (da_cons (de_len T.hk (by rfl) T.n_len (da_cons (de_var (pv 2)) da_nil)) da_nil)))))))))

set_option maxHeartbeats 4000000 in
theorem ok__law_pattern (T : Txt K mg cm) (C__law_text : CallOk P w K mg base "_law_text" 2 ["_law_pool_here", "_law_width", "_law_signs"] (spX cm 3 m__law_text)) (C__law_take : CallOk P w K mg base "_law_take" 1 ["_law_pool_here", "_law_many"] (spX cm 2 m__law_take)) {f : Addr} {fd : FuncData} (Fu : Fun K "_law_pattern" "_law_pattern" s__law_pattern f fd) (hm : mg "_law_pattern" = some (.ref f)) (hb : Binds K fd ["_law_pool_here", "_law_width"] []) : CallOk P w K mg base "_law_pattern" 3 ["_law_pool_here", "_law_width"] (spX cm 2 m__law_pattern) :=
  mk_io (k := 2) Fu sc__law_pattern hm hb fun cdv A outer s H E hr =>
      (ds_cons (ds_set 2 sc__law_pattern.nd (xe_ix ix_seq (o_ix T.hk) noEx_ix (fun _ _ => rfl) (xe_lift [] (de_lst (da_cons (de_str [48, 49, 42]) (da_cons (de_str [42, 42, 42, 48, 49]) (da_cons (de_str [48, 42]) (da_cons (de_str [49, 42]) da_nil)))))) (xe_fio 0 C__law_take (hr.mono (by decide)) pxB (pv 0) (xa_lift [] (da_cons de_int da_nil)))))
      (ds_one (ds_ret (xe_fio 0 C__law_text (hr.mono (by decide)) pxB (pv 0) (xa_lift [1, 2] (da_cons (de_var (pv 1)) (da_cons (de_var (pv 2)) da_nil)))))))

set_option maxHeartbeats 4000000 in
theorem ok__law_rule (T : Txt K mg cm) (C__law_take : CallOk P w K mg base "_law_take" 1 ["_law_pool_here", "_law_many"] (spX cm 2 m__law_take)) (C__law_pattern : CallOk P w K mg base "_law_pattern" 3 ["_law_pool_here", "_law_width"] (spX cm 2 m__law_pattern)) (C__law_text : CallOk P w K mg base "_law_text" 2 ["_law_pool_here", "_law_width", "_law_signs"] (spX cm 3 m__law_text)) {f : Addr} {fd : FuncData} (Fu : Fun K "_law_rule" "_law_rule" s__law_rule f fd) (hm : mg "_law_rule" = some (.ref f)) (hb : Binds K fd ["_law_pool_here", "_law_width", "_law_doors"] []) : CallOk P w K mg base "_law_rule" 4 ["_law_pool_here", "_law_width", "_law_doors"] (spX cm 3 m__law_rule) :=
  mk_io (k := 3) Fu sc__law_rule hm hb fun cdv A outer s H E hr =>
      (ds_cons (ds_set 3 sc__law_rule.nd (xe_ix ix_seq (o_ix T.hk) noEx_ix (fun _ _ => rfl) (xe_lst (xa_cons (xe_lift [] de_non) (xa_cons (xe_lift [] de_non) (xa_cons (xe_fio 0 C__law_take (hr.mono (by decide)) pxB (pv 0) (xa_lift [2] (da_cons (de_var (pv 2)) da_nil))) xa_nil)))) (xe_fio 0 C__law_take (hr.mono (by decide)) pxB (pv 0) (xa_lift [] (da_cons de_int da_nil)))))
      (ds_cons (ds_set 4 sc__law_rule.nd (xe_lift [] (de_lst da_nil)))
      (ds_cons (ds_for poB rfl (xi_range1 (by rfl) T.n_range (xa_cons (xe_ix ix_seq (o_ix T.hk) noEx_ix (fun _ _ => rfl) (xe_lift [] (de_lst (da_cons de_int (da_cons de_int (da_cons de_int (da_cons de_int (da_cons de_int (da_cons de_int (da_cons de_int da_nil))))))))) (xe_fio 0 C__law_take (hr.mono (by decide)) pxB (pv 0) (xa_lift [] (da_cons de_int da_nil)))) xa_nil)) (xg_name 5 sc__law_rule.nd) (ds_cons (ds_set 6 sc__law_rule.nd (xe_ix ix_seq (o_ix T.hk) noEx_ix (fun _ _ => rfl) (xe_lst (xa_cons (xe_lift [1] (de_mulS (de_str [42]) (de_var (pv 1)))) (xa_cons (xe_fio 0 C__law_text (hr.mono (by decide)) pxB (pv 0) (xa_lift [1] (da_cons (de_var (pv 1)) (da_cons (de_str [42, 42, 42, 48, 49]) da_nil)))) xa_nil))) (xe_fio 0 C__law_take (hr.mono (by decide)) pxB (pv 0) (xa_lift [] (da_cons de_int da_nil)))))
      (ds_one (ds_expr (xe_app 4 (pv 4) (xe_tup (xa_cons (xe_fio 0 C__law_take (hr.mono (by decide)) pxB (pv 0) (xa_lift [2] (da_cons (de_var (pv 2)) da_nil))) (xa_cons (xe_lift [6] (de_var (pv 6))) xa_nil))))))))
      (ds_one (ds_ret (xe_tup (xa_cons (xe_lift [3] (de_var (pv 3))) (xa_cons (xe_fio 0 C__law_pattern (hr.mono (by decide)) pxB (pv 0) (xa_lift [1] (da_cons (de_var (pv 1)) da_nil))) (xa_cons (xe_lift [4] (de_var (pv 4))) xa_nil)))))))))

set_option maxHeartbeats 4000000 in
theorem ok__law_net (T : Txt K mg cm) (C__law_take : CallOk P w K mg base "_law_take" 1 ["_law_pool_here", "_law_many"] (spX cm 2 m__law_take)) (C__law_rule : CallOk P w K mg base "_law_rule" 4 ["_law_pool_here", "_law_width", "_law_doors"] (spX cm 3 m__law_rule)) {f : Addr} {fd : FuncData} (Fu : Fun K "_law_net" "_law_net" s__law_net f fd) (hm : mg "_law_net" = some (.ref f)) (hb : Binds K fd ["_law_pool_here", "_law_width", "_law_most"] []) : CallOk P w K mg base "_law_net" 5 ["_law_pool_here", "_law_width", "_law_most"] (spX cm 3 m__law_net) :=
  mk_io (k := 4) Fu sc__law_net hm hb fun cdv A outer s H E hr =>
      (ds_cons (ds_set 3 sc__law_net.nd (xe_lift [] (de_lst da_nil)))
      (ds_cons (ds_for poB rfl (xi_range1 (by rfl) T.n_range (xa_cons (xe_op op_add o_I0 noEx_I0 (xe_lift [] de_int) (xe_fio 0 C__law_take (hr.mono (by decide)) pxB (pv 0) (xa_lift [2] (da_cons (de_var (pv 2)) da_nil)))) xa_nil)) (xg_name 4 sc__law_net.nd) (ds_cons (ds_set 7 sc__law_net.nd (xe_op op_add o_I0 noEx_I0 (xe_lift [] de_int) (xe_fio 0 C__law_take (hr.mono (by decide)) pxB (pv 0) (xa_lift [] (da_cons de_int da_nil)))))
      (ds_cons (ds_setLc 8 rfl sc__law_net.nd (xi_range1 (by rfl) T.n_range (xa_cons (xe_fio 0 C__law_take (hr.mono (by decide)) pxB (pv 0) (xa_lift [] (da_cons de_int da_nil))) xa_nil)) (blkOk_by (own := [("_law_k", 12)]) (N := N__law_net) (sc := defScope s__law_net) (by decide +kernel)) rfl (fun _ _ _ _ _ => (xg_name 12 sc__law_net.nd)) (fun _ _ _ _ _ => xts_nil) (fun _ _ _ _ _ => (xe_fio 0 C__law_rule (hr.mono (by decide)) pass_none (pv 0) (xa_lift [1, 7] (da_cons (de_var (pv 1)) (da_cons (de_var (pv 7)) da_nil))))) (sw_true rfl rfl rfl (by decide +kernel)))
      (ds_cons (ds_if (xt_cmp op_gt o_B0 noEx_I0 (nomark _) (xe_fio 0 C__law_take (hr.mono (by decide)) pxB (pv 0) (xa_lift [] (da_cons de_int da_nil))) (xe_lift [] de_int)) (ds_one (ds_expr (xe_app 8 (pv 8) (xe_tup (xa_cons (xe_lift [] de_non) (xa_cons (xe_lift [1] (de_mulS (de_str [42]) (de_var (pv 1)))) (xa_cons (xe_lst (xa_cons (xe_tup (xa_cons (xe_fio 0 C__law_take (hr.mono (by decide)) pxB (pv 0) (xa_lift [7] (da_cons (de_var (pv 7)) da_nil))) (xa_cons (xe_lift [1] (de_mulS (de_str [42]) (de_var (pv 1)))) xa_nil))) xa_nil)) xa_nil))))))) ds_nil)
      (ds_one (ds_expr (xe_app 3 (pv 3) (xe_lift [7, 8] (de_tup (da_cons (de_var (pv 7)) (da_cons (de_var (pv 8)) da_nil)))))))))))
      (ds_cons (ds_set 5 sc__law_net.nd (xe_lift [] (de_lst da_nil)))
      (ds_cons (ds_for poB rfl (xi_lift [3] (di_enum T.hk (by rfl) T.n_enumerate (da_cons (de_var (pv 3)) da_nil))) (xg_tup rfl (xgs_cons (xg_name 9 sc__law_net.nd) (xgs_cons (xg_name 10 sc__law_net.nd) xgs_nil))) (ds_one (ds_set 5 sc__law_net.nd (xe_lift [5, 9, 10, 13] (de_cat (de_var (pv 5)) (de_fz (de_lc rfl sc__law_net.nd (di_range1 (by rfl) T.n_range (da_cons (de_item T.hk (de_var (pv 10)) de_int) da_nil)) (blkOk_by (own := [("_law_door", 13)]) (N := N__law_net) (sc := defScope s__law_net) (by decide +kernel)) rfl (fun _ _ _ _ _ => (dg_name 13 sc__law_net.nd)) (fun _ _ _ _ _ => dts_nil) (fun _ _ _ _ _ => (de_tup (da_cons (de_var (pv 9)) (da_cons (de_var (pv 13)) da_nil)))))))))))
      (ds_cons (ds_set 6 sc__law_net.nd (xe_lift [] (de_lst da_nil)))
      (ds_cons (ds_while 100000 poB (XW.xt (xw_and (xt_lift [5] (dt_gt (de_len T.hk (by rfl) T.n_len (da_cons (de_var (pv 5)) da_nil)) de_int)) (xw_and1 (xt_cmp op_gt o_B0 noEx_I0 (nomark _) (xe_fio 0 C__law_take (hr.mono (by decide)) pxB (pv 0) (xa_lift [] (da_cons de_int da_nil))) (xe_lift [] de_int))))) (ds_cons (ds_set 10 sc__law_net.nd (xe_popAt 5 (pv 5) (xe_fio 0 C__law_take (hr.mono (by decide)) pxB (pv 0) (xa_lift [5] (da_cons (de_len T.hk (by rfl) T.n_len (da_cons (de_var (pv 5)) da_nil)) da_nil)))))
      (ds_cons (ds_set 11 sc__law_net.nd (xe_popAt 5 (pv 5) (xe_fio 0 C__law_take (hr.mono (by decide)) pxB (pv 0) (xa_lift [5] (da_cons (de_len T.hk (by rfl) T.n_len (da_cons (de_var (pv 5)) da_nil)) da_nil)))))
      (ds_one (ds_expr (xe_app 6 (pv 6) (xe_lift [10, 11] (de_tup (da_cons (de_minD rfl hr.un70 (by rfl) T.n_min (da_cons (de_var (pv 10)) (da_cons (de_var (pv 11)) da_nil))) (da_cons (de_maxD rfl hr.un70 (by rfl) T.n_max (da_cons (de_var (pv 10)) (da_cons (de_var (pv 11)) da_nil))) da_nil))))))))))
      (ds_one (ds_ret (xe_lift [1, 3, 6] (de_tup (da_cons (de_var (pv 1)) (da_cons (de_var (pv 3)) (da_cons (de_var (pv 6)) da_nil)))))))))))))

set_option maxHeartbeats 4000000 in
theorem ok__law_places (T : Txt K mg cm)  {f : Addr} {fd : FuncData} (Fu : Fun K "_law_places" "_law_places" s__law_places f fd) (hm : mg "_law_places" = some (.ref f)) (hb : Binds K fd ["_law_net_here"] []) : CallOk P w K mg base "_law_places" 1 ["_law_net_here"] (spP cm 1 m__law_places) :=
  mk_pure (k := 0) Fu sc__law_places hm hb fun cdv A outer s H E hr =>
      (ds_cons (ds_set 1 sc__law_places.nd (xe_lift [] (de_lst da_nil)))
      (ds_cons (ds_for poB rfl (xi_lift [0] (di_enum T.hk (by rfl) T.n_enumerate (da_cons (de_item T.hk (de_var (pv 0)) de_int) da_nil))) (xg_tup rfl (xgs_cons (xg_name 2 sc__law_places.nd) (xgs_cons (xg_name 3 sc__law_places.nd) xgs_nil))) (ds_one (ds_set 1 sc__law_places.nd (xe_lift [1, 2, 3, 4] (de_cat (de_var (pv 1)) (de_fz (de_lc rfl sc__law_places.nd (di_range1 (by rfl) T.n_range (da_cons (de_item T.hk (de_var (pv 3)) de_int) da_nil)) (blkOk_by (own := [("_law_door", 4)]) (N := N__law_places) (sc := defScope s__law_places) (by decide +kernel)) rfl (fun _ _ _ _ _ => (dg_name 4 sc__law_places.nd)) (fun _ _ _ _ _ => dts_nil) (fun _ _ _ _ _ => (de_tup (da_cons (de_var (pv 2)) (da_cons (de_var (pv 4)) da_nil)))))))))))
      (ds_one (ds_ret (xe_lift [1] (de_var (pv 1)))))))

set_option maxHeartbeats 4000000 in
theorem ok_is_whole (T : Txt K mg cm)  {f : Addr} {fd : FuncData} (Fu : Fun K "is_whole" "is_whole" s_is_whole f fd) (hm : mg "is_whole" = some (.ref f)) (hb : Binds K fd ["thing"] []) : CallOk P w K mg base "is_whole" 1 ["thing"] (spP cm 1 m_is_whole) :=
  mk_pure (k := 0) Fu sc_is_whole hm hb fun cdv A outer s H E hr =>
      (ds_one (ds_ret (xe_lift [0] (de_and (de_isi .int T.hk T.hC (by rfl) T.n_isinstance (by rfl) T.n_int (de_var (pv 0))) (de_one (de_not (de_isi .bool T.hk T.hC (by rfl) T.n_isinstance (by rfl) T.n_bool (de_var (pv 0)))))))))

set_option maxHeartbeats 4000000 in
theorem ok_is_below (T : Txt K mg cm) (C_is_whole : CallOk P w K mg base "is_whole" 1 ["thing"] (spP cm 1 m_is_whole)) {f : Addr} {fd : FuncData} (Fu : Fun K "is_below" "is_below" s_is_below f fd) (hm : mg "is_below" = some (.ref f)) (hb : Binds K fd ["thing", "many"] []) : CallOk P w K mg base "is_below" 2 ["thing", "many"] (spP cm 2 m_is_below) :=
  mk_pure (k := 1) Fu sc_is_below hm hb fun cdv A outer s H E hr =>
      (ds_one (ds_ret (xe_lift [0, 1] (de_and (de_fz (de_fn C_is_whole (hr.mono (by decide)) pxB (da_cons (de_var (pv 0)) da_nil))) (de_one (de_lelt de_int (de_var (pv 0)) (de_var (pv 1))))))))

set_option maxHeartbeats 4000000 in
theorem ok_is_place (T : Txt K mg cm) (C_is_below : CallOk P w K mg base "is_below" 2 ["thing", "many"] (spP cm 2 m_is_below)) {f : Addr} {fd : FuncData} (Fu : Fun K "is_place" "is_place" s_is_place f fd) (hm : mg "is_place" = some (.ref f)) (hb : Binds K fd ["switches", "thing"] []) : CallOk P w K mg base "is_place" 3 ["switches", "thing"] (spP cm 2 m_is_place) :=
  mk_pure (k := 2) Fu sc_is_place hm hb fun cdv A outer s H E hr =>
      (ds_cons (ds_if (xt_lift [0, 1] (DW.dt (dw_or (dt_not (dt_B (de_isi .tuple T.hk T.hC (by rfl) T.n_isinstance (by rfl) T.n_tuple (de_var (pv 1))))) (dw_or (dt_ne hr.units (de_len T.hk (by rfl) T.n_len (da_cons (de_var (pv 1)) da_nil)) de_int) (dw_or1 (dt_not (dt_B (de_fz (de_fn C_is_below (hr.mono (by decide)) pxB (da_cons (de_item T.hk (de_var (pv 1)) de_int) (da_cons (de_len T.hk (by rfl) T.n_len (da_cons (de_var (pv 0)) da_nil)) da_nil))))))))))) (ds_one (ds_ret (xe_lift [] de_bl))) ds_nil)
      (ds_one (ds_ret (xe_lift [0, 1] (de_fn C_is_below (hr.mono (by decide)) pxB (da_cons (de_item T.hk (de_var (pv 1)) de_int) (da_cons (de_item T.hk (de_item T.hk (de_var (pv 0)) (de_item T.hk (de_var (pv 1)) de_int)) de_int) da_nil)))))))

set_option maxHeartbeats 4000000 in
theorem ok_look_at_place (T : Txt K mg cm) (C_is_place : CallOk P w K mg base "is_place" 3 ["switches", "thing"] (spP cm 2 m_is_place)) {f : Addr} {fd : FuncData} (Fu : Fun K "look_at_place" "look_at_place" s_look_at_place f fd) (hm : mg "look_at_place" = some (.ref f)) (hb : Binds K fd ["net", "place"] []) : CallOk P w K mg base "look_at_place" 4 ["net", "place"] (spP cm 2 m_look_at_place) :=
  mk_pure (k := 3) Fu sc_look_at_place hm hb fun cdv A outer s H E hr =>
      (ds_one (ds_if (xt_lift [0, 1] (dt_not (dt_B (de_fz (de_fn C_is_place (hr.mono (by decide)) pxB (da_cons (de_item T.hk (de_var (pv 0)) de_int) (da_cons (de_var (pv 1)) da_nil))))))) (ds_one (ds_raise rfl txB T.x_NoPlace)) ds_nil))

set_option maxHeartbeats 4000000 in
theorem ok_is_of (T : Txt K mg cm)  {f : Addr} {fd : FuncData} (Fu : Fun K "is_of" "is_of" s_is_of f fd) (hm : mg "is_of" = some (.ref f)) (hb : Binds K fd ["thing", "width", "signs"] []) : CallOk P w K mg base "is_of" 1 ["thing", "width", "signs"] (spP cm 3 m_is_of) :=
  mk_pure (k := 0) Fu sc_is_of hm hb fun cdv A outer s H E hr =>
      (ds_one (ds_ret (xe_lift [0, 1, 2, 3] (de_and (de_isi .str T.hk T.hC (by rfl) T.n_isinstance (by rfl) T.n_str (de_var (pv 0))) (de_and (de_eq hr.units (de_len T.hk (by rfl) T.n_len (da_cons (de_var (pv 0)) da_nil)) (de_var (pv 1))) (de_one (de_all rfl (by rfl) T.n_all (da_cons (de_fz (de_lc rfl sc_is_of.nd (di_str (de_var (pv 0))) (blkOk_by (own := [("sign", 3)]) (N := N_is_of) (sc := defScope s_is_of) (by decide +kernel)) rfl (fun _ _ _ _ _ => (dg_name 3 sc_is_of.nd)) (fun _ _ _ _ _ => dts_nil) (fun _ _ _ _ _ => (de_in hr.units (de_var (pv 3)) (de_var (pv 2)))))) da_nil))))))))

set_option maxHeartbeats 4000000 in
theorem ok_is_head (T : Txt K mg cm) (C_is_of : CallOk P w K mg base "is_of" 1 ["thing", "width", "signs"] (spP cm 3 m_is_of)) {f : Addr} {fd : FuncData} (Fu : Fun K "is_head" "is_head" s_is_head f fd) (hm : mg "is_head" = some (.ref f)) (hb : Binds K fd ["thing", "width"] []) : CallOk P w K mg base "is_head" 2 ["thing", "width"] (spP cm 2 m_is_head) :=
  mk_pure (k := 1) Fu sc_is_head hm hb fun cdv A outer s H E hr =>
      (ds_one (ds_ret (xe_lift [0, 1] (de_fn C_is_of (hr.mono (by decide)) pxB (da_cons (de_var (pv 0)) (da_cons (de_var (pv 1)) (da_cons (de_str [48, 49]) da_nil)))))))

set_option maxHeartbeats 4000000 in
theorem ok_look_at_come (T : Txt K mg cm) (C_look_at_place : CallOk P w K mg base "look_at_place" 4 ["net", "place"] (spP cm 2 m_look_at_place)) (C_is_head : CallOk P w K mg base "is_head" 2 ["thing", "width"] (spP cm 2 m_is_head)) {f : Addr} {fd : FuncData} (Fu : Fun K "look_at_come" "look_at_come" s_look_at_come f fd) (hm : mg "look_at_come" = some (.ref f)) (hb : Binds K fd ["net", "place", "head"] []) : CallOk P w K mg base "look_at_come" 5 ["net", "place", "head"] (spP cm 3 m_look_at_come) :=
  mk_pure (k := 4) Fu sc_look_at_come hm hb fun cdv A outer s H E hr =>
      (ds_cons (ds_expr (xe_lift [0, 1] (de_fn C_look_at_place (hr.mono (by decide)) pxB (da_cons (de_var (pv 0)) (da_cons (de_var (pv 1)) da_nil)))))
      (ds_one (ds_if (xt_lift [0, 2] (dt_not (dt_B (de_fz (de_fn C_is_head (hr.mono (by decide)) pxB (da_cons (de_var (pv 2)) (da_cons (de_item T.hk (de_var (pv 0)) de_int) da_nil))))))) (ds_one (ds_raise rfl txB T.x_NoHead)) ds_nil)))

set_option maxHeartbeats 4000000 in
theorem ok_fits (T : Txt K mg cm)  {f : Addr} {fd : FuncData} (Fu : Fun K "fits" "fits" s_fits f fd) (hm : mg "fits" = some (.ref f)) (hb : Binds K fd ["pattern", "head"] []) : CallOk P w K mg base "fits" 1 ["pattern", "head"] (spP cm 2 m_fits) :=
  mk_pure (k := 0) Fu sc_fits hm hb fun cdv A outer s H E hr =>
      (ds_one (ds_ret (xe_lift [0, 1, 2, 3] (de_all rfl (by rfl) T.n_all (da_cons (de_fz (de_lc rfl sc_fits.nd (di_zip T.hk (by rfl) T.n_zip (da_cons (de_var (pv 0)) (da_cons (de_var (pv 1)) da_nil))) (blkOk_by (own := [("one", 2), ("sign", 3)]) (N := N_fits) (sc := defScope s_fits) (by decide +kernel)) rfl (fun _ _ _ _ _ => (dg_tup rfl (dgs_cons (dg_name 2 sc_fits.nd) (dgs_cons (dg_name 3 sc_fits.nd) dgs_nil)))) (fun _ _ _ _ _ => dts_nil) (fun _ _ _ _ _ => (de_or (de_eq hr.units (de_var (pv 2)) (de_globS T.c_STAR)) (de_one (de_eq hr.units (de_var (pv 2)) (de_var (pv 3)))))))) da_nil)))))

set_option maxHeartbeats 4000000 in
theorem ok_is_met (T : Txt K mg cm) (C_fits : CallOk P w K mg base "fits" 1 ["pattern", "head"] (spP cm 2 m_fits)) {f : Addr} {fd : FuncData} (Fu : Fun K "is_met" "is_met" s_is_met f fd) (hm : mg "is_met" = some (.ref f)) (hb : Binds K fd ["rule", "door", "head"] []) : CallOk P w K mg base "is_met" 2 ["rule", "door", "head"] (spP cm 3 m_is_met) :=
  mk_pure (k := 1) Fu sc_is_met hm hb fun cdv A outer s H E hr =>
      (ds_one (ds_ret (xe_lift [0, 1, 2] (de_and (de_in hr.units (de_item T.hk (de_var (pv 0)) de_int) (de_tup (da_cons de_non (da_cons (de_var (pv 1)) da_nil)))) (de_one (de_fn C_fits (hr.mono (by decide)) pxB (da_cons (de_item T.hk (de_var (pv 0)) de_int) (da_cons (de_var (pv 2)) da_nil))))))))

set_option maxHeartbeats 4000000 in
theorem ok_number_met (T : Txt K mg cm) (C_is_met : CallOk P w K mg base "is_met" 2 ["rule", "door", "head"] (spP cm 3 m_is_met)) {f : Addr} {fd : FuncData} (Fu : Fun K "number_met" "number_met" s_number_met f fd) (hm : mg "number_met" = some (.ref f)) (hb : Binds K fd ["net", "place", "head"] []) : CallOk P w K mg base "number_met" 3 ["net", "place", "head"] (spP cm 3 m_number_met) :=
  mk_pure (k := 2) Fu sc_number_met hm hb fun cdv A outer s H E hr =>
      (ds_cons (ds_for poB rfl (xi_lift [0, 1] (di_enum T.hk (by rfl) T.n_enumerate (da_cons (de_item T.hk (de_item T.hk (de_item T.hk (de_var (pv 0)) de_int) (de_item T.hk (de_var (pv 1)) de_int)) de_int) da_nil))) (xg_tup rfl (xgs_cons (xg_name 3 sc_number_met.nd) (xgs_cons (xg_name 4 sc_number_met.nd) xgs_nil))) (ds_one (ds_if (xt_lift [1, 2, 4] (dt_B (de_fz (de_fn C_is_met (hr.mono (by decide)) pxB (da_cons (de_var (pv 4)) (da_cons (de_item T.hk (de_var (pv 1)) de_int) (da_cons (de_var (pv 2)) da_nil))))))) (ds_one (ds_ret (xe_lift [3] (de_var (pv 3))))) ds_nil)))
      (ds_one (ds_ret (xe_lift [] de_non))))

set_option maxHeartbeats 4000000 in
theorem ok_other_end (T : Txt K mg cm)  {f : Addr} {fd : FuncData} (Fu : Fun K "other_end" "other_end" s_other_end f fd) (hm : mg "other_end" = some (.ref f)) (hb : Binds K fd ["net", "place"] []) : CallOk P w K mg base "other_end" 1 ["net", "place"] (spP cm 2 m_other_end) :=
  mk_pure (k := 0) Fu sc_other_end hm hb fun cdv A outer s H E hr =>
      (ds_cons (ds_for poB rfl (xi_lift [0] (di_list (de_item T.hk (de_var (pv 0)) de_int))) (xg_tup rfl (xgs_cons (xg_name 2 sc_other_end.nd) (xgs_cons (xg_name 3 sc_other_end.nd) xgs_nil))) (ds_cons (ds_if (xt_lift [1, 2] (dt_eq hr.units (de_var (pv 1)) (de_var (pv 2)))) (ds_one (ds_ret (xe_lift [3] (de_var (pv 3))))) ds_nil)
      (ds_one (ds_if (xt_lift [1, 3] (dt_eq hr.units (de_var (pv 1)) (de_var (pv 3)))) (ds_one (ds_ret (xe_lift [2] (de_var (pv 2))))) ds_nil))))
      (ds_one (ds_ret (xe_lift [] de_non))))

set_option maxHeartbeats 4000000 in
theorem ok_put (T : Txt K mg cm)  {f : Addr} {fd : FuncData} (Fu : Fun K "put" "put" s_put f fd) (hm : mg "put" = some (.ref f)) (hb : Binds K fd ["pattern", "by"] []) : CallOk P w K mg base "put" 1 ["pattern", "by"] (spP cm 2 m_put) :=
  mk_pure (k := 0) Fu sc_put hm hb fun cdv A outer s H E hr =>
      (ds_one (ds_ret (xe_lift [0, 1, 2, 3] (de_join (de_str []) (de_fz (de_lc rfl sc_put.nd (di_zip T.hk (by rfl) T.n_zip (da_cons (de_var (pv 0)) (da_cons (de_var (pv 1)) da_nil))) (blkOk_by (own := [("own", 2), ("sign", 3)]) (N := N_put) (sc := defScope s_put) (by decide +kernel)) rfl (fun _ _ _ _ _ => (dg_tup rfl (dgs_cons (dg_name 2 sc_put.nd) (dgs_cons (dg_name 3 sc_put.nd) dgs_nil)))) (fun _ _ _ _ _ => dts_nil) (fun _ _ _ _ _ => (de_if (dt_eq hr.units (de_var (pv 3)) (de_globS T.c_STAR)) (de_var (pv 2)) (de_var (pv 3))))))))))

set_option maxHeartbeats 4000000 in
theorem ok_led_by (T : Txt K mg cm) (C_other_end : CallOk P w K mg base "other_end" 1 ["net", "place"] (spP cm 2 m_other_end)) (C_put : CallOk P w K mg base "put" 1 ["pattern", "by"] (spP cm 2 m_put)) {f : Addr} {fd : FuncData} (Fu : Fun K "led_by" "led_by" s_led_by f fd) (hm : mg "led_by" = some (.ref f)) (hb : Binds K fd ["net", "switch", "out", "head"] []) : CallOk P w K mg base "led_by" 2 ["net", "switch", "out", "head"] (spP cm 4 m_led_by) :=
  mk_pure (k := 1) Fu sc_led_by hm hb fun cdv A outer s H E hr =>
      (ds_cons (ds_asg (xe_lift [2] (de_var (pv 2))) (xg_tup rfl (xgs_cons (xg_name 5 sc_led_by.nd) (xgs_cons (xg_name 6 sc_led_by.nd) xgs_nil))))
      (ds_cons (ds_set 4 sc_led_by.nd (xe_lift [0, 1, 5] (de_fn C_other_end (hr.mono (by decide)) pxB (da_cons (de_var (pv 0)) (da_cons (de_tup (da_cons (de_var (pv 1)) (da_cons (de_var (pv 5)) da_nil))) da_nil)))))
      (ds_cons (ds_if (xt_lift [4] (dt_is (de_var (pv 4)) de_non)) (ds_one (ds_ret (xe_lift [1, 3, 5, 6] (de_tup (da_cons (de_str [111, 117, 116]) (da_cons (de_tup (da_cons (de_var (pv 1)) (da_cons (de_var (pv 5)) da_nil))) (da_cons (de_fn C_put (hr.mono (by decide)) pxB (da_cons (de_var (pv 3)) (da_cons (de_var (pv 6)) da_nil))) da_nil))))))) ds_nil)
      (ds_one (ds_ret (xe_lift [3, 4, 6] (de_tup (da_cons (de_str [105, 110]) (da_cons (de_var (pv 4)) (da_cons (de_fn C_put (hr.mono (by decide)) pxB (da_cons (de_var (pv 3)) (da_cons (de_var (pv 6)) da_nil))) da_nil))))))))))

set_option maxHeartbeats 4000000 in
theorem ok_all_come (T : Txt K mg cm) (C_number_met : CallOk P w K mg base "number_met" 3 ["net", "place", "head"] (spP cm 3 m_number_met)) (C_led_by : CallOk P w K mg base "led_by" 2 ["net", "switch", "out", "head"] (spP cm 4 m_led_by)) {f : Addr} {fd : FuncData} (Fu : Fun K "all_come" "all_come" s_all_come f fd) (hm : mg "all_come" = some (.ref f)) (hb : Binds K fd ["net", "place", "head"] []) : CallOk P w K mg base "all_come" 4 ["net", "place", "head"] (spP cm 3 m_all_come) :=
  mk_pure (k := 3) Fu sc_all_come hm hb fun cdv A outer s H E hr =>
      (ds_cons (ds_set 3 sc_all_come.nd (xe_lift [0, 1, 2] (de_fn C_number_met (hr.mono (by decide)) pxB (da_cons (de_var (pv 0)) (da_cons (de_var (pv 1)) (da_cons (de_var (pv 2)) da_nil))))))
      (ds_cons (ds_if (xt_lift [3] (dt_is (de_var (pv 3)) de_non)) (ds_one (ds_ret (xe_lift [] (de_lst da_nil)))) ds_nil)
      (ds_one (ds_ret (xe_lift [0, 1, 2, 3, 4] (de_lc rfl sc_all_come.nd (di_list (de_item T.hk (de_item T.hk (de_item T.hk (de_item T.hk (de_item T.hk (de_var (pv 0)) de_int) (de_item T.hk (de_var (pv 1)) de_int)) de_int) (de_var (pv 3))) de_int)) (blkOk_by (own := [("out", 4)]) (N := N_all_come) (sc := defScope s_all_come) (by decide +kernel)) rfl (fun _ _ _ _ _ => (dg_name 4 sc_all_come.nd)) (fun _ _ _ _ _ => dts_nil) (fun _ _ _ _ _ => (de_fn C_led_by (hr.mono (by decide)) pass_none (da_cons (de_var (pv 0)) (da_cons (de_item T.hk (de_var (pv 1)) de_int) (da_cons (de_var (pv 4)) (da_cons (de_var (pv 2)) da_nil))))))))))))

set_option maxHeartbeats 4000000 in
theorem ok_comes (T : Txt K mg cm) (C_look_at_come : CallOk P w K mg base "look_at_come" 5 ["net", "place", "head"] (spP cm 3 m_look_at_come)) (C_all_come : CallOk P w K mg base "all_come" 4 ["net", "place", "head"] (spP cm 3 m_all_come)) {f : Addr} {fd : FuncData} (Fu : Fun K "comes" "comes" s_comes f fd) (hm : mg "comes" = some (.ref f)) (hb : Binds K fd ["net", "place", "head"] []) : CallOk P w K mg base "comes" 6 ["net", "place", "head"] (spP cm 3 m_comes) :=
  mk_pure (k := 5) Fu sc_comes hm hb fun cdv A outer s H E hr =>
      (ds_cons (ds_expr (xe_lift [0, 1, 2] (de_fn C_look_at_come (hr.mono (by decide)) pxB (da_cons (de_var (pv 0)) (da_cons (de_var (pv 1)) (da_cons (de_var (pv 2)) da_nil))))))
      (ds_one (ds_ret (xe_lift [0, 1, 2] (de_fn C_all_come (hr.mono (by decide)) pxB (da_cons (de_var (pv 0)) (da_cons (de_var (pv 1)) (da_cons (de_var (pv 2)) da_nil))))))))

set_option maxHeartbeats 4000000 in
theorem ok__law_fits (T : Txt K mg cm)  {f : Addr} {fd : FuncData} (Fu : Fun K "_law_fits" "_law_fits" s__law_fits f fd) (hm : mg "_law_fits" = some (.ref f)) (hb : Binds K fd ["_law_pattern_here", "_law_head"] []) : CallOk P w K mg base "_law_fits" 1 ["_law_pattern_here", "_law_head"] (spP cm 2 m__law_fits) :=
  mk_pure (k := 0) Fu sc__law_fits hm hb fun cdv A outer s H E hr =>
      (ds_one (ds_ret (xe_lift [0, 1, 2] (de_eq hr.units (de_fz (de_lc rfl sc__law_fits.nd (di_range1 (by rfl) T.n_range (da_cons (de_len T.hk (by rfl) T.n_len (da_cons (de_var (pv 1)) da_nil)) da_nil)) (blkOk_by (own := [("_law_k", 2)]) (N := N__law_fits) (sc := defScope s__law_fits) (by decide +kernel)) rfl (fun _ _ _ _ _ => (dg_name 2 sc__law_fits.nd)) (fun _ _ _ _ _ => (dts_one (dt_ni hr.units (de_item T.hk (de_var (pv 0)) (de_var (pv 2))) (de_tup (da_cons (de_str [42]) (da_cons (de_item T.hk (de_var (pv 1)) (de_var (pv 2))) da_nil)))))) (fun _ _ _ _ _ => (de_var (pv 2))))) (de_fz (de_lst da_nil))))))

set_option maxHeartbeats 4000000 in
theorem ok__law_rule_met (T : Txt K mg cm) (C__law_fits : CallOk P w K mg base "_law_fits" 1 ["_law_pattern_here", "_law_head"] (spP cm 2 m__law_fits)) {f : Addr} {fd : FuncData} (Fu : Fun K "_law_rule_met" "_law_rule_met" s__law_rule_met f fd) (hm : mg "_law_rule_met" = some (.ref f)) (hb : Binds K fd ["_law_net_here", "_law_place", "_law_head"] []) : CallOk P w K mg base "_law_rule_met" 2 ["_law_net_here", "_law_place", "_law_head"] (spP cm 3 m__law_rule_met) :=
  mk_pure (k := 1) Fu sc__law_rule_met hm hb fun cdv A outer s H E hr =>
      (ds_cons (ds_for poB rfl (xi_lift [0, 1] (di_enum T.hk (by rfl) T.n_enumerate (da_cons (de_item T.hk (de_item T.hk (de_item T.hk (de_var (pv 0)) de_int) (de_item T.hk (de_var (pv 1)) de_int)) de_int) da_nil))) (xg_tup rfl (xgs_cons (xg_name 3 sc__law_rule_met.nd) (xgs_cons (xg_name 4 sc__law_rule_met.nd) xgs_nil))) (ds_one (ds_if (xt_lift [1, 2, 4] (DW.dt (dw_and (dt_in hr.units (de_item T.hk (de_var (pv 4)) de_int) (de_tup (da_cons de_non (da_cons (de_item T.hk (de_var (pv 1)) de_int) da_nil)))) (dw_and1 (dt_B (de_fz (de_fn C__law_fits (hr.mono (by decide)) pxB (da_cons (de_item T.hk (de_var (pv 4)) de_int) (da_cons (de_var (pv 2)) da_nil))))))))) (ds_one (ds_ret (xe_lift [3] (de_var (pv 3))))) ds_nil)))
      (ds_one (ds_ret (xe_lift [] de_non))))

set_option maxHeartbeats 4000000 in
theorem ok__law_across (T : Txt K mg cm)  {f : Addr} {fd : FuncData} (Fu : Fun K "_law_across" "_law_across" s__law_across f fd) (hm : mg "_law_across" = some (.ref f)) (hb : Binds K fd ["_law_net_here", "_law_place"] []) : CallOk P w K mg base "_law_across" 1 ["_law_net_here", "_law_place"] (spP cm 2 m__law_across) :=
  mk_pure (k := 0) Fu sc__law_across hm hb fun cdv A outer s H E hr =>
      (ds_cons (ds_for poB rfl (xi_lift [0] (di_list (de_item T.hk (de_var (pv 0)) de_int))) (xg_tup rfl (xgs_cons (xg_name 2 sc__law_across.nd) (xgs_cons (xg_name 3 sc__law_across.nd) xgs_nil))) (ds_one (ds_if (xt_lift [1, 2, 3] (dt_in hr.units (de_var (pv 1)) (de_tup (da_cons (de_var (pv 2)) (da_cons (de_var (pv 3)) da_nil))))) (ds_one (ds_ret (xe_lift [1, 2, 3] (de_item T.hk (de_fz (de_lst (da_cons (de_var (pv 2)) (da_cons (de_var (pv 3)) da_nil)))) (de_intc (by rfl) T.n_int (da_cons (de_eq hr.units (de_var (pv 1)) (de_var (pv 2))) da_nil)))))) ds_nil)))
      (ds_one (ds_ret (xe_lift [] de_non))))

set_option maxHeartbeats 4000000 in
theorem ok__law_put (T : Txt K mg cm)  {f : Addr} {fd : FuncData} (Fu : Fun K "_law_put" "_law_put" s__law_put f fd) (hm : mg "_law_put" = some (.ref f)) (hb : Binds K fd ["_law_head", "_law_by"] []) : CallOk P w K mg base "_law_put" 1 ["_law_head", "_law_by"] (spP cm 2 m__law_put) :=
  mk_pure (k := 0) Fu sc__law_put hm hb fun cdv A outer s H E hr =>
      (ds_one (ds_ret (xe_lift [0, 1, 2, 3] (de_join (de_str []) (de_fz (de_lc rfl sc__law_put.nd (di_enum T.hk (by rfl) T.n_enumerate (da_cons (de_var (pv 1)) da_nil)) (blkOk_by (own := [("_law_k", 2), ("_law_sign", 3)]) (N := N__law_put) (sc := defScope s__law_put) (by decide +kernel)) rfl (fun _ _ _ _ _ => (dg_tup rfl (dgs_cons (dg_name 2 sc__law_put.nd) (dgs_cons (dg_name 3 sc__law_put.nd) dgs_nil)))) (fun _ _ _ _ _ => dts_nil) (fun _ _ _ _ _ => (de_item T.hk (de_fz (de_lst (da_cons (de_var (pv 3)) (da_cons (de_item T.hk (de_var (pv 0)) (de_var (pv 2))) da_nil)))) (de_intc (by rfl) T.n_int (da_cons (de_eq hr.units (de_var (pv 3)) (de_str [42])) da_nil))))))))))

set_option maxHeartbeats 4000000 in
theorem ok__law_comes (T : Txt K mg cm) (C__law_rule_met : CallOk P w K mg base "_law_rule_met" 2 ["_law_net_here", "_law_place", "_law_head"] (spP cm 3 m__law_rule_met)) (C__law_across : CallOk P w K mg base "_law_across" 1 ["_law_net_here", "_law_place"] (spP cm 2 m__law_across)) (C__law_put : CallOk P w K mg base "_law_put" 1 ["_law_head", "_law_by"] (spP cm 2 m__law_put)) {f : Addr} {fd : FuncData} (Fu : Fun K "_law_comes" "_law_comes" s__law_comes f fd) (hm : mg "_law_comes" = some (.ref f)) (hb : Binds K fd ["_law_net_here", "_law_place", "_law_head"] []) : CallOk P w K mg base "_law_comes" 3 ["_law_net_here", "_law_place", "_law_head"] (spP cm 3 m__law_comes) :=
  mk_pure (k := 2) Fu sc__law_comes hm hb fun cdv A outer s H E hr =>
      (ds_cons (ds_set 3 sc__law_comes.nd (xe_lift [0, 1, 2] (de_fn C__law_rule_met (hr.mono (by decide)) pxB (da_cons (de_var (pv 0)) (da_cons (de_var (pv 1)) (da_cons (de_var (pv 2)) da_nil))))))
      (ds_cons (ds_if (xt_lift [3] (dt_is (de_var (pv 3)) de_non)) (ds_one (ds_ret (xe_lift [] (de_lst da_nil)))) ds_nil)
      (ds_cons (ds_set 4 sc__law_comes.nd (xe_lift [] (de_lst da_nil)))
      (ds_cons (ds_for poB rfl (xi_lift [0, 1, 3] (di_list (de_item T.hk (de_item T.hk (de_item T.hk (de_item T.hk (de_item T.hk (de_var (pv 0)) de_int) (de_item T.hk (de_var (pv 1)) de_int)) de_int) (de_var (pv 3))) de_int))) (xg_tup rfl (xgs_cons (xg_name 5 sc__law_comes.nd) (xgs_cons (xg_name 6 sc__law_comes.nd) xgs_nil))) (ds_cons (ds_set 7 sc__law_comes.nd (xe_lift [0, 1, 5] (de_fn C__law_across (hr.mono (by decide)) pxB (da_cons (de_var (pv 0)) (da_cons (de_tup (da_cons (de_item T.hk (de_var (pv 1)) de_int) (da_cons (de_var (pv 5)) da_nil))) da_nil)))))
      (ds_one (ds_if (xt_lift [7] (dt_is (de_var (pv 7)) de_non)) (ds_one (ds_expr (xe_app 4 (pv 4) (xe_lift [1, 2, 5, 6] (de_tup (da_cons (de_str [111, 117, 116]) (da_cons (de_tup (da_cons (de_item T.hk (de_var (pv 1)) de_int) (da_cons (de_var (pv 5)) da_nil))) (da_cons (de_fn C__law_put (hr.mono (by decide)) pxB (da_cons (de_var (pv 2)) (da_cons (de_var (pv 6)) da_nil))) da_nil)))))))) (ds_one (ds_expr (xe_app 4 (pv 4) (xe_lift [2, 6, 7] (de_tup (da_cons (de_str [105, 110]) (da_cons (de_var (pv 7)) (da_cons (de_fn C__law_put (hr.mono (by decide)) pxB (da_cons (de_var (pv 2)) (da_cons (de_var (pv 6)) da_nil))) da_nil))))))))))))
      (ds_one (ds_ret (xe_lift [4] (de_var (pv 4)))))))))

set_option maxHeartbeats 4000000 in
theorem ok__law_kind (T : Txt K mg cm) {f : Addr} {fd : FuncData} (Fu : Fun K "_law_kind" "_law_kind" s__law_kind f fd) (hm : mg "_law_kind" = some (.ref f)) (hb : Binds K fd ["_law_call"] []) : KindOk P w K mg base cm "_law_kind" 1 m__law_kind :=
  mk_kind (kk := 0) (i := 2) (jj := 1) T.hk Fu sc__law_kind hm hb (by rfl) T.g_HeadError (tab_cons T.em_NoPlace_HeadError (tab_cons T.em_NoHead_HeadError tab_nil)) (by rfl)
      (fun cdv A outer s H E hr => (ds_set 1 sc__law_kind.nd (xe_lift [] de_non)))
      (fun cdv A outer s H E hr => (ds_cons (ds_if (xt_lift [1] (dt_is (de_var (pv 1)) de_non)) (ds_one (ds_ret (xe_lift [] (de_str [116, 111, 108, 100])))) ds_nil)
      (ds_cons (ds_set 3 sc__law_kind.nd (xe_lift [1] (de_lst (da_cons (de_isX (kit := (tab [("NoPlace", true), ("NoHead", false)])) (by rfl) T.n_isinstance (by rfl) T.g_NoPlace (tab_cons ⟨T.ec_NoPlace, T.ki_NoPlace_NoPlace⟩ (tab_cons ⟨T.ec_NoHead, T.ki_NoHead_NoPlace⟩ tab_nil)) (de_var (pv 1))) (da_cons (de_isX (kit := (tab [("NoPlace", false), ("NoHead", true)])) (by rfl) T.n_isinstance (by rfl) T.g_NoHead (tab_cons ⟨T.ec_NoPlace, T.ki_NoPlace_NoHead⟩ (tab_cons ⟨T.ec_NoHead, T.ki_NoHead_NoHead⟩ tab_nil)) (de_var (pv 1))) (da_cons (de_isXT (kit := (tab [("NoPlace", false), ("NoHead", false)])) (by rfl) T.n_isinstance (.own (by rfl) T.g_NoNet (by decide) (.own (by rfl) T.g_NoRule (by decide) (.own (by rfl) T.g_NoWay (by decide) .nil rfl) rfl) rfl) (Nat.le_of_ble_eq_true rfl) (tab_cons ⟨T.ec_NoPlace, T.ka_NoPlace_NoNet_NoRule_NoWay⟩ (tab_cons ⟨T.ec_NoHead, T.ka_NoHead_NoNet_NoRule_NoWay⟩ tab_nil)) (de_var (pv 1))) da_nil))))))
      (ds_cons (ds_if (xt_lift [1, 3] (DW.dt (dw_or (dt_ne hr.units (de_cntL (de_var (pv 3)) de_bl) de_int) (dw_or1 (dt_not (dt_B (de_isXb (kit := (tab [("NoPlace", true), ("NoHead", true)])) (by rfl) T.n_isinstance (by rfl) T.n_ValueError rfl (tab_cons ⟨T.ec_NoPlace, T.ki_NoPlace_ValueError⟩ (tab_cons ⟨T.ec_NoHead, T.ki_NoHead_ValueError⟩ tab_nil)) (de_var (pv 1))))))))) (ds_one (ds_ret (xe_lift [] (de_str [111, 116, 104, 101, 114])))) ds_nil)
      (ds_one (ds_ret (xe_lift [3] (de_item T.hk (de_fz (de_lst (da_cons (de_str [112, 108, 97, 99, 101]) (da_cons (de_str [104, 101, 97, 100]) (da_cons (de_str [111, 116, 104, 101, 114]) da_nil))))) (de_idxL (de_var (pv 3)) de_bl)))))))))

set_option maxHeartbeats 4000000 in
theorem ok_rule_met (T : Txt K mg cm) (C_look_at_come : CallOk P w K mg base "look_at_come" 5 ["net", "place", "head"] (spP cm 3 m_look_at_come)) (C_number_met : CallOk P w K mg base "number_met" 3 ["net", "place", "head"] (spP cm 3 m_number_met)) {f : Addr} {fd : FuncData} (Fu : Fun K "rule_met" "rule_met" s_rule_met f fd) (hm : mg "rule_met" = some (.ref f)) (hb : Binds K fd ["net", "place", "head"] []) : CallOk P w K mg base "rule_met" 6 ["net", "place", "head"] (spP cm 3 m_rule_met) :=
  mk_pure (k := 5) Fu sc_rule_met hm hb fun cdv A outer s H E hr =>
      (ds_cons (ds_expr (xe_lift [0, 1, 2] (de_fn C_look_at_come (hr.mono (by decide)) pxB (da_cons (de_var (pv 0)) (da_cons (de_var (pv 1)) (da_cons (de_var (pv 2)) da_nil))))))
      (ds_one (ds_ret (xe_lift [0, 1, 2] (de_fn C_number_met (hr.mono (by decide)) pxB (da_cons (de_var (pv 0)) (da_cons (de_var (pv 1)) (da_cons (de_var (pv 2)) da_nil))))))))

set_option maxHeartbeats 4000000 in
theorem ok__law_both (T : Txt K mg cm) (C__law_kind : KindOk P w K mg base cm "_law_kind" 1 m__law_kind) (C_rule_met : CallOk P w K mg base "rule_met" 6 ["net", "place", "head"] (spP cm 3 m_rule_met)) (C_comes : CallOk P w K mg base "comes" 6 ["net", "place", "head"] (spP cm 3 m_comes)) {f : Addr} {fd : FuncData} (Fu : Fun K "_law_both" "_law_both" s__law_both f fd) (B : LamB mg base fd.code ("_law_both" ++ ".<locals>." ++ "<lambda>")) (hm : mg "_law_both" = some (.ref f)) (hb : Binds K fd ["_law_net_here", "_law_place", "_law_head"] []) : CallOk P w K mg base "_law_both" 9 ["_law_net_here", "_law_place", "_law_head"] (spP cm 3 m__law_both) :=
  mk_pureL (k := 8) Fu sc__law_both B hm hb fun cdv A outer s H E B hr =>
      (ds_cons (ds_set 3 sc__law_both.nd (xe_lift [0, 1, 2] (de_lst (da_cons (de_lam 6 C__law_kind (hr.mono (by decide)) B pxB (LamX.lamS_by (by kernel_rfl)) (fun A outer s H E' f d hr => (de_fn C_rule_met (hr.mono (by decide)) pxL (da_cons (de_var (pv 0)) (da_cons (de_var (pv 1)) (da_cons (de_var (pv 2)) da_nil)))))) da_nil))))
      (ds_cons (ds_expr (xe_app 3 (pv 3) (xe_lift [0, 1, 2] (de_lam 6 C__law_kind (hr.mono (by decide)) B pxB (LamX.lamS_by (by kernel_rfl)) (fun A outer s H E' f d hr => (de_fn C_comes (hr.mono (by decide)) pxL (da_cons (de_var (pv 0)) (da_cons (de_var (pv 1)) (da_cons (de_var (pv 2)) da_nil)))))))))
      (ds_one (ds_ret (xe_lift [3] (de_var (pv 3)))))))

set_option maxHeartbeats 4000000 in
theorem fn_law (T : Txt K mg cm) (C__law_pool : CallOk P w K mg base "_law_pool" 2 ["_law_script", "_law_k"] (spP cm 2 m__law_pool)) (C__law_net : CallOk P w K mg base "_law_net" 5 ["_law_pool_here", "_law_width", "_law_most"] (spX cm 3 m__law_net)) (C__law_places : CallOk P w K mg base "_law_places" 1 ["_law_net_here"] (spP cm 1 m__law_places)) (C__law_text : CallOk P w K mg base "_law_text" 2 ["_law_pool_here", "_law_width", "_law_signs"] (spX cm 3 m__law_text)) (C__law_take : CallOk P w K mg base "_law_take" 1 ["_law_pool_here", "_law_many"] (spX cm 2 m__law_take)) (C_comes : CallOk P w K mg base "comes" 6 ["net", "place", "head"] (spP cm 3 m_comes)) (C__law_comes : CallOk P w K mg base "_law_comes" 3 ["_law_net_here", "_law_place", "_law_head"] (spP cm 3 m__law_comes)) (C__law_both : CallOk P w K mg base "_law_both" 9 ["_law_net_here", "_law_place", "_law_head"] (spP cm 3 m__law_both)) {f : Addr} {fd : FuncData} (Fu : Fun K "law" "law" s_law f fd) : FnG P w K mg base 10 f fd ["_law_script"] (spP cm 1 m_law) :=
  fn_pure (k := 9) Fu sc_law fun cdv A outer s H E hr =>
      (ds_cons (ds_for poB rfl (xi_range1 (by rfl) T.n_range (xa_lift [0] (da_cons (de_max2 rfl (by rfl) T.n_max (da_cons de_int (da_cons (de_min2 rfl (by rfl) T.n_min (da_cons (de_len T.hk (by rfl) T.n_len (da_cons (de_var (pv 0)) da_nil)) (da_cons de_int da_nil))) da_nil))) da_nil))) (xg_name 1 sc_law.nd) (ds_cons (ds_set 2 sc_law.nd (xe_lift [0, 1] (de_fn C__law_pool (hr.mono (by decide)) pxB (da_cons (de_var (pv 0)) (da_cons (de_var (pv 1)) da_nil)))))
      (ds_cons (ds_set 3 sc_law.nd (xe_op op_add o_I0 noEx_I0 (xe_lift [] de_int) (xe_fio 2 C__law_take (hr.mono (by decide)) pxB (pv 2) (xa_lift [] (da_cons de_int da_nil)))))
      (ds_cons (ds_set 4 sc_law.nd (xe_fio 2 C__law_net (hr.mono (by decide)) pxB (pv 2) (xa_lift [3] (da_cons (de_var (pv 3)) (da_cons de_int da_nil)))))
      (ds_cons (ds_set 5 sc_law.nd (xe_lift [4] (de_fn C__law_places (hr.mono (by decide)) pxB (da_cons (de_var (pv 4)) da_nil))))
      (ds_cons (ds_set 6 sc_law.nd (xe_ix ix_seq (o_ix T.hk) noEx_ix (fun _ _ => rfl) (xe_lift [5] (de_var (pv 5))) (xe_fio 2 C__law_take (hr.mono (by decide)) pxB (pv 2) (xa_lift [5] (da_cons (de_len T.hk (by rfl) T.n_len (da_cons (de_var (pv 5)) da_nil)) da_nil)))))
      (ds_cons (ds_set 7 sc_law.nd (xe_fio 2 C__law_text (hr.mono (by decide)) pxB (pv 2) (xa_lift [3] (da_cons (de_var (pv 3)) (da_cons (de_str [48, 49]) da_nil)))))
      (ds_cons (ds_set 8 sc_law.nd (xe_lift [5] (de_item T.hk (de_var (pv 5)) (de_neg de_int))))
      (ds_cons (ds_set 9 sc_law.nd (xe_lift [8] (de_lst (da_cons de_non (da_cons de_int (da_cons (de_tup da_nil) (da_cons (de_lst (da_cons de_int (da_cons de_int da_nil))) (da_cons (de_tup (da_cons de_int (da_cons de_int (da_cons de_int da_nil)))) (da_cons (de_tup (da_cons (de_neg de_int) (da_cons de_int da_nil))) (da_cons (de_tup (da_cons de_int (da_cons de_int da_nil))) (da_cons (de_tup (da_cons de_bl (da_cons de_int da_nil))) (da_cons (de_tup (da_cons (de_addI (de_item T.hk (de_var (pv 8)) de_int) de_int) (da_cons de_int da_nil))) da_nil))))))))))))
      (ds_cons (ds_set 9 sc_law.nd (xe_lift [8, 9] (de_cat (de_var (pv 9)) (de_fz (de_lst (da_cons (de_tup (da_cons (de_item T.hk (de_var (pv 8)) de_int) (da_cons (de_addI (de_item T.hk (de_var (pv 8)) de_int) de_int) da_nil))) (da_cons (de_tup (da_cons de_int (da_cons de_bl da_nil))) (da_cons (de_tup (da_cons de_int (da_cons de_bl da_nil))) (da_cons (de_tup (da_cons (de_lst (da_cons de_int da_nil)) (da_cons de_int da_nil))) (da_cons (de_tup (da_cons de_int (da_cons (de_lst (da_cons de_int da_nil)) da_nil))) (da_cons (de_tup (da_cons de_int (da_cons de_dK0 da_nil))) da_nil)))))))))))
      (ds_cons (ds_set 10 sc_law.nd (xe_lift [3, 7] (de_lst (da_cons de_non (da_cons de_int (da_cons (de_str []) (da_cons (de_addS (de_var (pv 7)) (de_str [48])) (da_cons (de_slS (de_var (pv 7)) (do_some de_int) do_none) (da_cons (de_mulS (de_str [42]) (de_var (pv 3))) (da_cons (de_mulS (de_str [50]) (de_var (pv 3))) (da_cons (de_list rfl (by rfl) T.n_list (da_cons (de_var (pv 7)) da_nil)) (da_cons de_bl da_nil))))))))))))
      (ds_cons (ds_for poB rfl (xi_lift [9] (di_list (de_var (pv 9)))) (xg_name 11 sc_law.nd) (ds_cons (ds_if (xt_lift [4, 7, 11] (dt_ne hr.units (de_fz (de_fn C__law_both (hr.mono (by decide)) pxB (da_cons (de_var (pv 4)) (da_cons (de_var (pv 11)) (da_cons (de_var (pv 7)) da_nil))))) (de_fz (de_lst (da_cons (de_str [112, 108, 97, 99, 101]) (da_cons (de_str [112, 108, 97, 99, 101]) da_nil)))))) (ds_one (ds_ret (xe_lift [] de_bl))) ds_nil)
      (ds_one (ds_if (xt_lift [1, 4, 10, 11] (dt_ne hr.units (de_fz (de_fn C__law_both (hr.mono (by decide)) pxB (da_cons (de_var (pv 4)) (da_cons (de_var (pv 11)) (da_cons (de_item T.hk (de_var (pv 10)) (de_modI (de_var (pv 1)) de_int)) da_nil))))) (de_fz (de_lst (da_cons (de_str [112, 108, 97, 99, 101]) (da_cons (de_str [112, 108, 97, 99, 101]) da_nil)))))) (ds_one (ds_ret (xe_lift [] de_bl))) ds_nil))))
      (ds_cons (ds_for poB rfl (xi_lift [10] (di_list (de_var (pv 10)))) (xg_name 11 sc_law.nd) (ds_one (ds_if (xt_lift [4, 6, 11] (dt_ne hr.units (de_fz (de_fn C__law_both (hr.mono (by decide)) pxB (da_cons (de_var (pv 4)) (da_cons (de_var (pv 6)) (da_cons (de_var (pv 11)) da_nil))))) (de_fz (de_lst (da_cons (de_str [104, 101, 97, 100]) (da_cons (de_str [104, 101, 97, 100]) da_nil)))))) (ds_one (ds_ret (xe_lift [] de_bl))) ds_nil)))
      (ds_one (ds_if (xt_lift [4, 6, 7] (dt_ne hr.units (de_fz (de_fn C_comes (hr.mono (by decide)) pxB (da_cons (de_var (pv 4)) (da_cons (de_var (pv 6)) (da_cons (de_var (pv 7)) da_nil))))) (de_fz (de_fn C__law_comes (hr.mono (by decide)) pxB (da_cons (de_var (pv 4)) (da_cons (de_var (pv 6)) (da_cons (de_var (pv 7)) da_nil))))))) (ds_one (ds_ret (xe_lift [] de_bl))) ds_nil)))))))))))))))
      (ds_one (ds_ret (xe_lift [] de_bl))))

end
end My

namespace My
open PySem L2 DL
variable {X : Xc → DL.Env → Prop}
/-- a pool: an int, and one from nought to below 2147483647 -/
def Pool (p : D) : Prop := ∃ a b : Int, p = .lst true [.int a, .int b] ∧ 0 ≤ b ∧ b < 2147483647
theorem Pool.shr {p : D} (h : Pool p) : DL.shr p = false := by
  obtain ⟨a, b, rfl, _⟩ := h; rfl
theorem cmul_l {i j : Int} (h0 : 0 ≤ i) (h : i < 4294967296) : CMul i j := .inl ⟨by omega, by omega⟩
theorem cmul_r {i j : Int} (h0 : 0 ≤ j) (h : j < 4294967296) : CMul i j := .inr ⟨by omega, by omega⟩
theorem cell_spec {ns : List Int} {k : Int} (hk : 0 ≤ k) {P : D → Prop} (h : ∀ c : Int, P (.int c)) : WO' X (m__law_cell_at [.scr ns, .int k]) P := by
  unfold m__law_cell_at
  rw [WO_runP (by rfl)]
  unfold g__law_cell_at
  simp
  by_cases hl : k < ns.length
  · simp only [hl, if_true]
    obtain ⟨a, h1, _⟩ := WO_at hk hl
    exact ⟨_, ⟨a, h1, rfl⟩, h a⟩
  · simp only [hl, if_false]
    exact h 0
theorem pool_spec {ns : List Int} {k : Int} (hk : 0 ≤ k) (hk' : k ≤ 100) {P : D → Prop} (h : ∀ p, Pool p → P p) : WO' X (m__law_pool [.scr ns, .int k]) P := by
  unfold m__law_pool
  rw [WO_runP (by rfl)]
  unfold g__law_pool
  simp
  refine cell_spec hk fun c => ?_
  simp
  generalize hs : (c % 2147483629 + 7919 * k * k + 1) * 48271 % 2147483647 = s
  have h0 : 0 ≤ s := by omega
  have h1 : s < 2147483647 := by omega
  have hm : CMul s s := cmul_l h0 (by omega)
  refine ⟨cmul_l (by omega) (by omega), cmul_r hk (by omega), cmul_r (by omega) (by omega), by decide, ?_⟩
  split
  · exact ⟨hm, h _ ⟨_, _, rfl, by omega, by omega⟩⟩
  · exact ⟨hm, h _ ⟨_, _, rfl, by omega, by omega⟩⟩
theorem take_spec {p : D} {n : Int} (hp : Pool p) (h0 : 0 < n) (h1 : n ≤ 1000000) {P : D × D → Prop} (h : ∀ (x : Nat) (q : D), (x : Int) < n → Pool q → P (.int x, q)) : WO' X (m__law_take [p, .int n]) P := by
  replace h : ∀ (x : Int) (q : D), 0 ≤ x → x < n → Pool q → P (.int x, q) := fun x q h0 h1 hq => by
    obtain ⟨k, rfl⟩ := Int.eq_ofNat_of_zero_le h0
    exact h k q h1 hq
  obtain ⟨a, b, rfl, hb0, hb1⟩ := hp
  unfold m__law_take
  rw [WO_runX (by rfl)]
  unfold g__law_take
  simp
  split
  · rename_i ha
    exact ⟨h0, ⟨by omega, by omega⟩, h _ _ (Int.emod_nonneg _ (by omega)) (Int.emod_lt_of_pos _ h0) ⟨_, _, rfl, hb0, hb1⟩⟩
  · generalize hs : (b * 48271 + 11) % 2147483647 = s
    have h2 : 0 ≤ s := by omega
    have h3 : s < 2147483647 := by omega
    exact ⟨cmul_l hb0 (by omega), cmul_l h2 (by omega), ⟨by omega, by omega⟩, h0, h _ _ (Int.emod_nonneg _ (by omega)) (Int.emod_lt_of_pos _ h0) ⟨_, _, rfl, h2, h3⟩⟩
theorem text_spec {p : D} {w : Int} {ss : List Nat} (hp : Pool p) (h0 : 0 ≤ w) (h1 : w ≤ 1000) (hs0 : 0 < ss.length) (hs1 : ss.length ≤ 1000) {P : D × D → Prop} (h : ∀ (cs : List Nat) (q : D), (cs.length : Int) = w → (∀ c ∈ cs, c ∈ ss) → Pool q → P (.str cs, q)) : WO' X (m__law_text [p, .int w, .str ss]) P := by
  unfold m__law_text
  rw [WO_runX (by rfl)]
  unfold g__law_text
  simp
  refine WO_xLc (fun acc ds r => ∃ (cs : List Nat) (q : D) (x : Option D), acc = cs.map (fun c => D.str [c]) ∧ (∀ c ∈ cs, c ∈ ss) ∧ (cs.length + ds.length : Int) = w ∧ Pool q ∧ r = [some q, some (.int w), some (.str ss), x]) ?_ ?_ ?_
  · simp
    exact ⟨⟨by omega, by omega⟩, by omega, by omega, hp⟩
  · rintro acc d ds r ⟨cs, q, x, rfl, hc, hl, hq, rfl⟩
    simp
    refine ⟨by omega, take_spec hq (by omega) (by omega) fun x q h3 hq' => ?_⟩
    simp
    obtain ⟨c, h4, h5⟩ := WO_at (Int.natCast_nonneg x) h3
    refine ⟨by omega, _, ⟨c, h4, rfl⟩, cs ++ [c], by simp, ?_, ?_, hq'⟩
    · intro c' hc'
      rcases List.mem_append.mp hc' with h6 | h6
      · exact hc _ h6
      · cases List.mem_singleton.mp h6; exact h5
    · simp at hl ⊢; omega
  · rintro ys r ⟨cs, q, x, rfl, hc, hl, hq, rfl⟩
    simp at hl ⊢
    exact ⟨by omega, h _ _ hl hc hq⟩
end My

namespace My
open PySem L2 DL
variable {X : Xc → DL.Env → Prop}
def fitsB (p h : List Nat) : Bool := (p.zip h).all fun x => x.1 == 42 || x.1 == x.2
def putL (p b : List Nat) : List Nat := (p.zip b).map fun x => if x.2 = 42 then x.1 else x.2
def meetL : List Nat → List Nat → Option (List Nat)
  | a :: p, b :: q => if a ≠ 42 ∧ b ≠ 42 ∧ a ≠ b then none else (meetL p q).map ((if a = 42 then b else a) :: ·)
  | _, _ => some []
def opS : Option (List Nat) → D
  | some x => .str x
  | none => .non
def backL (p b : List Nat) : Option (List Nat) := if meetL p b = none then none else some ((p.zip b).map fun x => if x.2 = 42 then x.1 else 42)
theorem fits_eq {p h : List Nat} (hp : p.length ≤ 1000) : m_fits [.str p, .str h] = .ok (.bl (fitsB p h)) := by
  refine WO.eq ?_
  unfold m_fits
  rw [WO_runP (by rfl)]
  unfold g_fits
  simp
  refine WO_cLcM (fun x : Nat × Nat => .tup [.str [x.1], .str [x.2]]) (fun x => .bl (x.1 == 42 || x.1 == x.2)) (p.zip h) (by simp) (by simp; omega) ?_ ?_
  · rintro ⟨a, b⟩ hx
    simp
    split <;> simp [*]
  · simp [fitsB]
theorem put_eq {p h : List Nat} (hp : p.length ≤ 1000) : m_put [.str p, .str h] = .ok (.str (putL p h)) := by
  refine WO.eq ?_
  unfold m_put
  rw [WO_runP (by rfl)]
  unfold g_put
  simp
  refine WO_cLcM (fun x : Nat × Nat => .tup [.str [x.1], .str [x.2]]) (fun x => .str [if x.2 = 42 then x.1 else x.2]) (p.zip h) (by simp) (by simp; omega) ?_ ?_
  · rintro ⟨a, b⟩ hx
    simp
    split <;> simp [*]
  · simp [putL]; omega
end My

namespace My
open PySem L2 DL
variable {X : Xc → DL.Env → Prop}
theorem lawfits_eq {p h : List Nat} (hl : h.length ≤ p.length) (hp : p.length ≤ 1000) : m__law_fits [.str p, .str h] = .ok (.bl (fitsB p h)) := by
  refine WO.eq ?_
  unfold m__law_fits
  rw [WO_runP (by rfl)]
  unfold g__law_fits
  simp
  refine WO_cLcF (fun k : Nat => .int k) (fun k => !(p.getD k 0 == 42 || p.getD k 0 == h.getD k 0)) (fun k => .int k) (List.range h.length) ?_ (by simp; omega) ?_ ?_
  · simp [rng_map]; omega
  · intro k hk
    simp at hk
    have h1 : k < p.length := by omega
    simp [atI_k hk, atI_k h1, h1, hk]
    refine ⟨by omega, by omega, ?_⟩
    by_cases e1 : 42 = p[k]
    · simp [e1.symm]
    · by_cases e2 : h[k] = p[k]
      · simp [e1, e2, Ne.symm e1]
      · simp [e1, e2, Ne.symm e1, Ne.symm e2]
  · simp
    rw [Bool.eq_iff_iff, List.isEmpty_iff, List.filter_eq_nil_iff]
    unfold fitsB
    rw [List.all_eq_true]
    simp only [List.mem_range]
    constructor
    · intro H x hx
      obtain ⟨k, hk, rfl⟩ := List.mem_iff_getElem.mp hx
      simp at hk
      have hkp : k < p.length := by omega
      have hkh : k < h.length := by omega
      have := H k hkh
      simp [hkp, hkh] at this
      simp
      by_cases e : p[k] = 42
      · exact .inl e
      · exact .inr (this e)
    · intro H k hk
      have hkp : k < p.length := by omega
      have := H (p[k], h[k]) (List.mem_iff_getElem.mpr ⟨k, by simp; omega, by simp⟩)
      simp [hk, hkp] at this ⊢
      rcases this with e | e
      · exact fun n => absurd e n
      · exact fun _ => e
theorem zipIdx_zip {β : Type} (F : Nat → Nat → β) {h q : List Nat} (hl : h.length = q.length) : (q.zipIdx.map fun x => F (h.getD x.2 0) x.1) = (h.zip q).map fun x => F x.1 x.2 := by
  apply List.ext_getElem
  · simp; omega
  · intro i h1 h2
    simp at h1 h2
    simp [show i < h.length by omega]
theorem lawput_eq {p q : List Nat} (hl : p.length = q.length) (hp : p.length ≤ 1000) : m__law_put [.str p, .str q] = .ok (.str (putL p q)) := by
  refine WO.eq ?_
  unfold m__law_put
  rw [WO_runP (by rfl)]
  unfold g__law_put
  simp
  refine WO_cLcM (fun x : Nat × Nat => .tup [.int (x.2 : Nat), .str [x.1]]) (fun x => .str [if x.1 = 42 then p.getD x.2 0 else x.1]) q.zipIdx (by simp) (by rw [List.length_zipIdx]; omega) ?_ ?_
  · rintro ⟨a, k⟩ hx
    have hk : k < p.length := by
      have := List.snd_lt_of_mem_zipIdx hx
      omega
    simp [atI_k hk, hk]
    refine ⟨by omega, ?_⟩
    split <;> rfl
  · simp
    refine ⟨by omega, ?_⟩
    have := zipIdx_zip (fun a b => if b = 42 then a else b) hl
    simp at this
    exact this
def heads : Nat → List (List Nat)
  | 0 => [[]]
  | n + 1 => (heads n).flatMap fun h => [h ++ [48], h ++ [49]]
theorem heads_len : ∀ n, (heads n).length = 2 ^ n
  | 0 => rfl
  | n + 1 => by
    have := heads_len n
    show List.length (List.flatMap _ _) = _
    rw [len_two, this, Nat.pow_succ]; omega
theorem heads_each : ∀ n, ∀ h ∈ heads n, h.length = n ∧ ∀ c ∈ h, c = 48 ∨ c = 49
  | 0, h, hm => by cases List.mem_singleton.mp hm; simp
  | n + 1, h, hm => by
    simp [heads] at hm
    obtain ⟨g, hg, e⟩ := hm
    obtain ⟨h1, h2⟩ := heads_each n g hg
    rcases e with rfl | rfl
    · refine ⟨by simp [h1], fun c hc => ?_⟩
      rcases List.mem_append.mp hc with hc | hc
      · exact h2 c hc
      · simp at hc; exact .inl hc
    · refine ⟨by simp [h1], fun c hc => ?_⟩
      rcases List.mem_append.mp hc with hc | hc
      · exact h2 c hc
      · simp at hc; exact .inr hc
theorem heads_all : ∀ n (h : List Nat), h.length = n → (∀ c ∈ h, c = 48 ∨ c = 49) → h ∈ heads n
  | 0, h, hl, _ => by simp [heads]; exact List.length_eq_zero_iff.mp hl
  | n + 1, h, hl, hc => by
    have hne : h ≠ [] := by intro z; subst z; cases hl
    have e := List.dropLast_concat_getLast hne
    have := heads_all n h.dropLast (by simp [hl]) fun c m => hc c (List.dropLast_subset h m)
    simp [heads]
    refine ⟨_, this, ?_⟩
    rcases hc _ (List.getLast_mem hne) with z | z <;> rw [z] at e
    · exact .inl e.symm
    · exact .inr e.symm
end My

namespace My
/-! heads and patterns, sign by sign -/
def IsP (p : List Nat) : Prop := ∀ c ∈ p, c = 48 ∨ c = 49 ∨ c = 42
def IsH (p : List Nat) : Prop := ∀ c ∈ p, c = 48 ∨ c = 49
theorem IsH.p {p : List Nat} (h : IsH p) : IsP p := fun c m => (h c m).elim .inl fun z => .inr (.inl z)
theorem fits_cons {a b : Nat} {p h : List Nat} : fitsB (a :: p) (b :: h) = ((a == 42 || a == b) && fitsB p h) := rfl
theorem fits_nil {h : List Nat} : fitsB [] h = true := by cases h <;> rfl
theorem put_cons {a b : Nat} {p h : List Nat} : putL (a :: p) (b :: h) = (if b = 42 then a else b) :: putL p h := rfl
theorem put_nil {h : List Nat} : putL [] h = [] := by cases h <;> rfl
theorem put_len {p q : List Nat} (h : p.length = q.length) : (putL p q).length = p.length := by simp [putL]; omega
theorem put_isP : ∀ {p q : List Nat}, IsP p → IsP q → IsP (putL p q)
  | [], q, _, _ => by rw [put_nil]; exact fun c m => nomatch m
  | a :: p, [], _, _ => fun c m => nomatch m
  | a :: p, b :: q, hp, hq => by
    rw [put_cons]
    intro c hc
    rcases List.mem_cons.mp hc with rfl | hc
    · split
      · exact hp a (List.mem_cons_self ..)
      · exact hq b (List.mem_cons_self ..)
    · exact put_isP (fun c m => hp c (List.mem_cons_of_mem _ m)) (fun c m => hq c (List.mem_cons_of_mem _ m)) c hc
theorem put_isH : ∀ {p q : List Nat}, IsH p → IsP q → IsH (putL p q)
  | [], q, _, _ => by rw [put_nil]; exact fun c m => nomatch m
  | a :: p, [], _, _ => fun c m => nomatch m
  | a :: p, b :: q, hp, hq => by
    rw [put_cons]
    intro c hc
    rcases List.mem_cons.mp hc with rfl | hc
    · split
      · exact hp a (List.mem_cons_self ..)
      · have := hq b (List.mem_cons_self ..)
        omega
    · exact put_isH (fun c m => hp c (List.mem_cons_of_mem _ m)) (fun c m => hq c (List.mem_cons_of_mem _ m)) c hc
theorem put_put : ∀ {p q : List Nat}, p.length = q.length → putL (putL p q) q = putL p q
  | [], q, _ => by simp [put_nil]
  | a :: p, b :: q, h => by
    rw [put_cons, put_cons, put_put (Nat.succ.inj h)]
    congr 1
    split <;> rfl
theorem put_stars : ∀ {p : List Nat}, putL p (List.replicate p.length 42) = p
  | [] => rfl
  | a :: p => by
    show putL (a :: p) (42 :: List.replicate p.length 42) = _
    rw [put_cons, put_stars]; rfl
theorem meet_self : ∀ {p : List Nat}, meetL p p = some p
  | [] => rfl
  | a :: p => by simp [meetL, meet_self]
theorem meet_comm : ∀ {p q : List Nat}, IsP p → IsP q → meetL p q = meetL q p
  | [], [], _, _ => rfl
  | [], _ :: _, _, _ => rfl
  | _ :: _, [], _, _ => rfl
  | a :: p, b :: q, hp, hq => by
    have ih := meet_comm (p := p) (q := q) (fun c m => hp c (List.mem_cons_of_mem _ m)) (fun c m => hq c (List.mem_cons_of_mem _ m))
    simp only [meetL]
    rw [ih]
    by_cases h : a = 42
    · by_cases k : b = 42 <;> simp [h, k]
    · by_cases k : b = 42
      · simp [h, k]
      · by_cases e : a = b
        · simp [h, k, e]
        · have : ¬ b = a := fun z => e z.symm
          simp [h, k, e, this]
theorem meet_stars : ∀ {p : List Nat}, meetL p (List.replicate p.length 42) = some p
  | [] => rfl
  | a :: p => by
    show meetL (a :: p) (42 :: List.replicate p.length 42) = _
    simp [meetL, meet_stars]
    exact Eq.symm
theorem back_stars {p : List Nat} : backL p (List.replicate p.length 42) = some p := by
  unfold backL
  rw [meet_stars]
  simp
  apply List.ext_getElem
  · simp
  · intro i h1 h2; simp
theorem fits_put : ∀ {p q h : List Nat}, p.length = h.length → q.length = h.length → IsP p → IsP q → IsH h → (fitsB (putL p q) h = true ↔ ∃ g, g.length = h.length ∧ IsH g ∧ fitsB p g = true ∧ putL g q = h)
  | [], _ :: _, _, h1, h2, _, _, _ => absurd (h1.trans h2.symm) (by simp)
  | _ :: _, [], _, h1, h2, _, _, _ => absurd (h1.trans h2.symm) (by simp)
  | [], [], [], _, _, _, _, _ => by simp [put_nil, fits_nil]; exact fun c m => nomatch m
  | a :: p, b :: q, c :: h, h1, h2, hp, hq, hh => by
    have ih := fits_put (p := p) (q := q) (h := h) (Nat.succ.inj h1) (Nat.succ.inj h2) (fun c m => hp c (List.mem_cons_of_mem _ m)) (fun c m => hq c (List.mem_cons_of_mem _ m)) (fun c m => hh c (List.mem_cons_of_mem _ m))
    have ha := hp a (List.mem_cons_self ..)
    have hb := hq b (List.mem_cons_self ..)
    have hc := hh c (List.mem_cons_self ..)
    rw [put_cons, fits_cons, Bool.and_eq_true, ih]
    constructor
    · rintro ⟨h3, g, h4, h5, h6, h7⟩
      refine ⟨(if b = 42 then c else if a = 42 then 48 else a) :: g, by simp [h4], ?_, ?_, ?_⟩
      · intro d hd
        rcases List.mem_cons.mp hd with rfl | hd
        · split
          · exact hc
          · split
            · exact .inl rfl
            · omega
        · exact h5 d hd
      · rw [fits_cons, h6, Bool.and_true]
        by_cases k : b = 42
        · simp [k] at h3 ⊢; exact h3
        · by_cases k2 : a = 42
          · simp [k2]
          · simp [k, k2]
      · rw [put_cons, h7]
        congr 1
        by_cases k : b = 42
        · simp [k]
        · simp [k] at h3 ⊢; exact h3
    · rintro ⟨g, h4, h5, h6, h7⟩
      match g, h4 with
      | d :: g, h4 =>
        rw [fits_cons, Bool.and_eq_true] at h6
        rw [put_cons] at h7
        simp only [List.cons.injEq] at h7
        refine ⟨?_, g, Nat.succ.inj h4, fun c m => h5 c (List.mem_cons_of_mem _ m), h6.2, h7.2⟩
        have h8 := h6.1
        have h9 := h7.1
        by_cases k : b = 42
        · simp [k] at h8 h9 ⊢; subst h9; exact h8
        · simp [k] at h9 ⊢; exact h9
theorem fits_back : ∀ {p q h : List Nat}, p.length = h.length → q.length = h.length → IsP p → IsP q → IsH h → ((∃ b, backL p q = some b ∧ fitsB b h = true) ↔ fitsB p (putL h q) = true)
  | [], _ :: _, _, h1, h2, _, _, _ => absurd (h1.trans h2.symm) (by simp)
  | _ :: _, [], _, h1, h2, _, _, _ => absurd (h1.trans h2.symm) (by simp)
  | [], [], [], _, _, _, _, _ => by simp [backL, meetL, put_nil, fits_nil]
  | a :: p, b :: q, c :: h, h1, h2, hp, hq, hh => by
    have ih := fits_back (p := p) (q := q) (h := h) (Nat.succ.inj h1) (Nat.succ.inj h2) (fun c m => hp c (List.mem_cons_of_mem _ m)) (fun c m => hq c (List.mem_cons_of_mem _ m)) (fun c m => hh c (List.mem_cons_of_mem _ m))
    have hb := hq b (List.mem_cons_self ..)
    rw [put_cons, fits_cons, Bool.and_eq_true, ← ih]
    have e : backL (a :: p) (b :: q) = if a ≠ 42 ∧ b ≠ 42 ∧ a ≠ b then none else (backL p q).map ((if b = 42 then a else 42) :: ·) := by
      unfold backL
      simp only [meetL]
      split
      · simp
      · cases meetL p q <;> simp
    rw [e]
    by_cases k : b = 42
    · simp [k]
      constructor
      · rintro ⟨x, ⟨y, hy, rfl⟩, hx⟩
        rw [fits_cons, Bool.and_eq_true] at hx
        exact ⟨by simpa using hx.1, y, hy, hx.2⟩
      · rintro ⟨hx, y, hy, hz⟩
        exact ⟨_, ⟨y, hy, rfl⟩, by rw [fits_cons, hz, Bool.and_true]; simpa using hx⟩
    · by_cases k2 : a = 42
      · simp [k, k2]
        constructor
        · rintro ⟨x, ⟨y, hy, rfl⟩, hx⟩
          rw [fits_cons, Bool.and_eq_true] at hx
          exact ⟨y, hy, hx.2⟩
        · rintro ⟨y, hy, hz⟩
          exact ⟨_, ⟨y, hy, rfl⟩, by rw [fits_cons, hz]; simp⟩
      · by_cases k3 : a = b
        · simp [k, k2, k3]
          constructor
          · rintro ⟨x, ⟨y, hy, rfl⟩, hx⟩
            rw [fits_cons, Bool.and_eq_true] at hx
            exact ⟨y, hy, hx.2⟩
          · rintro ⟨y, hy, hz⟩
            exact ⟨_, ⟨y, hy, rfl⟩, by rw [fits_cons, hz]; simp⟩
        · simp [k, k2, k3]
theorem fits_meet : ∀ {p q h : List Nat}, p.length = h.length → q.length = h.length → IsH h → ((∃ b, meetL p q = some b ∧ fitsB b h = true) ↔ fitsB p h = true ∧ fitsB q h = true)
  | [], _ :: _, _, h1, h2, _ => absurd (h1.trans h2.symm) (by simp)
  | _ :: _, [], _, h1, h2, _ => absurd (h1.trans h2.symm) (by simp)
  | [], [], [], _, _, _ => by simp [meetL, fits_nil]
  | a :: p, b :: q, c :: h, h1, h2, hh => by
    have ih := fits_meet (p := p) (q := q) (h := h) (Nat.succ.inj h1) (Nat.succ.inj h2) (fun c m => hh c (List.mem_cons_of_mem _ m))
    have hc := hh c (List.mem_cons_self ..)
    simp only [fits_cons, Bool.and_eq_true, meetL]
    have : ∀ u : Nat, ((∃ d, Option.map (u :: ·) (meetL p q) = some d ∧ fitsB d (c :: h) = true) ↔ (u == 42 || u == c) = true ∧ fitsB p h = true ∧ fitsB q h = true) := by
      intro u
      rw [← ih]
      constructor
      · rintro ⟨d, hd, hf⟩
        cases hm : meetL p q with
        | none => rw [hm] at hd; cases hd
        | some z =>
          rw [hm] at hd; cases hd
          rw [fits_cons, Bool.and_eq_true] at hf
          exact ⟨hf.1, z, rfl, hf.2⟩
      · rintro ⟨hu, z, hz, hf⟩
        exact ⟨u :: z, by rw [hz]; rfl, by rw [fits_cons, hu, hf]; rfl⟩
    by_cases k : a ≠ 42 ∧ b ≠ 42 ∧ a ≠ b
    · rw [if_pos k]
      simp [k.1, k.2.1]
      intro e _ e2
      exact absurd (e.trans e2.symm) k.2.2
    · rw [if_neg k, this]
      by_cases k1 : a = 42
      · simp [k1]
        constructor
        · rintro ⟨x, y, z⟩; exact ⟨y, x, z⟩
        · rintro ⟨x, y, z⟩; exact ⟨y, x, z⟩
      · simp [k1]
        have k2 : b = 42 ∨ b = a := by
          by_cases q1 : b = 42
          · exact .inl q1
          · exact .inr (Decidable.byContradiction fun n => k ⟨k1, q1, fun z => n z.symm⟩)
        constructor
        · rintro ⟨x, y, z⟩
          refine ⟨⟨x, y⟩, ?_, z⟩
          rcases k2 with q | q
          · exact .inl q
          · exact .inr (q.trans x)
        · rintro ⟨⟨x, y⟩, _, z⟩; exact ⟨x, y, z⟩
theorem meet_len : ∀ {p q x : List Nat}, meetL p q = some x → x.length ≤ p.length
  | [], _, x, h => by cases h; exact Nat.le_refl _
  | _ :: _, [], x, h => by cases h; exact Nat.zero_le _
  | a :: p, b :: q, x, h => by
    simp only [meetL] at h
    split at h
    · cases h
    · cases hm : meetL p q with
      | none => rw [hm] at h; cases h
      | some z =>
        rw [hm] at h; cases h
        have := meet_len hm
        simp; omega
theorem fits_put_self : ∀ {h q : List Nat}, h.length = q.length → IsH h → fitsB q (putL h q) = true
  | [], [], _, _ => rfl
  | a :: h, b :: q, hl, hh => by
    rw [put_cons, fits_cons, fits_put_self (Nat.succ.inj hl) (fun c m => hh c (List.mem_cons_of_mem _ m)), Bool.and_true]
    by_cases k : b = 42 <;> simp [k]
end My

namespace My
open PySem L2 DL
/-! nets as things of Lean -/
structure Rule where
  door : Option Nat
  pat : List Nat
  outs : List (Nat × List Nat)
deriving DecidableEq
structure Net where
  w : Nat
  sw : List (Nat × List Rule)
  ln : List ((Nat × Nat) × (Nat × Nat))
deriving DecidableEq
abbrev Pl := Nat × Nat
def eO : Option Nat → D
  | some n => .int n
  | none => .non
def ePl (p : Pl) : D := .tup [.int p.1, .int p.2]
def eOut (o : Nat × List Nat) : D := .tup [.int o.1, .str o.2]
def eRule (r : Rule) : D := .tup [eO r.door, .str r.pat, .lst false (r.outs.map eOut)]
def eSw (s : Nat × List Rule) : D := .tup [.int s.1, .lst false (s.2.map eRule)]
def eLn (l : Pl × Pl) : D := .tup [ePl l.1, ePl l.2]
def eNet (n : Net) : D := .tup [.int n.w, .lst false (n.sw.map eSw), .lst false (n.ln.map eLn)]
def eOPl : Option Pl → D
  | some p => ePl p
  | none => .non
@[simp] theorem frz_eO {o : Option Nat} : frz (eO o) = eO o := by cases o <;> rfl
@[simp] theorem frz_ePl {p : Pl} : frz (ePl p) = ePl p := rfl
@[simp] theorem frz_eOPl {p : Option Pl} : frz (eOPl p) = eOPl p := by cases p <;> rfl
@[simp] theorem frz_eOut {o : Nat × List Nat} : frz (eOut o) = eOut o := rfl
@[simp] theorem frz_eRule {r : Rule} : frz (eRule r) = eRule r := by simp [eRule]
@[simp] theorem frz_eSw {r : Nat × List Rule} : frz (eSw r) = eSw r := by simp [eSw]
@[simp] theorem frz_eLn {r : Pl × Pl} : frz (eLn r) = eLn r := by simp [eLn]
@[simp] theorem frz_eNet {r : Net} : frz (eNet r) = eNet r := by simp [eNet]
@[simp] theorem shr_eO {o : Option Nat} : shr (eO o) = false := by cases o <;> rfl
@[simp] theorem shr_ePl {p : Pl} : shr (ePl p) = false := rfl
@[simp] theorem shr_eOPl {p : Option Pl} : shr (eOPl p) = false := by cases p <;> rfl
@[simp] theorem shr_eOut {p : Nat × List Nat} : shr (eOut p) = false := rfl
@[simp] theorem shr_eRule {p : Rule} : shr (eRule p) = true := by simp [eRule]
@[simp] theorem shr_eSw {p : Nat × List Rule} : shr (eSw p) = true := by simp [eSw]
@[simp] theorem shr_eLn {p : Pl × Pl} : shr (eLn p) = false := by simp [eLn]
@[simp] theorem shr_eNet {p : Net} : shr (eNet p) = true := by simp [eNet]
@[simp] theorem plain_eO {o : Option Nat} : plainD (eO o) = true := by cases o <;> rfl
@[simp] theorem plain_ePl {p : Pl} : plainD (ePl p) = true := rfl
@[simp] theorem plain_eOPl {p : Option Pl} : plainD (eOPl p) = true := by cases p <;> rfl
@[simp] theorem plain_eOut {p : Nat × List Nat} : plainD (eOut p) = true := rfl
theorem plain_lst {b : Bool} {xs : List D} : plainD (.lst b xs) = plainDs xs := rfl
theorem plain_tup {xs : List D} : plainD (.tup xs) = plainDs xs := rfl
theorem plains_cons {x : D} {xs : List D} : plainDs (x :: xs) = (plainD x && plainDs xs) := rfl
theorem plains_nil : plainDs [] = true := rfl
@[simp] theorem plain_eRule {p : Rule} : plainD (eRule p) = true := by simp [eRule, plain_lst, plain_tup, plains_cons, plains_nil, plainD]
@[simp] theorem plain_eSw {p : Nat × List Rule} : plainD (eSw p) = true := by simp [eSw, plain_lst, plain_tup, plains_cons, plains_nil, plainD]
@[simp] theorem plain_eLn {p : Pl × Pl} : plainD (eLn p) = true := by simp [eLn, plain_lst, plain_tup, plains_cons, plains_nil, plainD]
@[simp] theorem plain_eNet {p : Net} : plainD (eNet p) = true := by simp [eNet, plain_lst, plain_tup, plains_cons, plains_nil, plainD]
theorem dle_lst {n : Nat} {b : Bool} {xs : List D} : dle (n + 1) (.lst b xs) = dles n xs := rfl
theorem dle_tup {n : Nat} {xs : List D} : dle (n + 1) (.tup xs) = dles n xs := rfl
theorem dles_cons {n : Nat} {x : D} {xs : List D} : dles n (x :: xs) = (dle n x && dles n xs) := by cases n <;> rfl
theorem dles_nil {n : Nat} : dles n [] = true := by cases n <;> rfl
@[simp] theorem dle_int {n : Nat} {i : Int} : dle n (.int i) = true := by cases n <;> rfl
@[simp] theorem dle_str {n : Nat} {i : List Nat} : dle n (.str i) = true := by cases n <;> rfl
@[simp] theorem dle_non {n : Nat} : dle n .non = true := by cases n <;> rfl
@[simp] theorem dle_bl {n : Nat} {i : Bool} : dle n (.bl i) = true := by cases n <;> rfl
@[simp] theorem dle_eO {n : Nat} {o : Option Nat} : dle n (eO o) = true := by cases o <;> simp [eO]
@[simp] theorem dle_ePl {n : Nat} {p : Pl} : dle (n + 1) (ePl p) = true := by simp [ePl, dle_tup, dles_cons, dles_nil]
@[simp] theorem dle_eOPl {n : Nat} {p : Option Pl} : dle (n + 1) (eOPl p) = true := by cases p <;> simp [eOPl]
@[simp] theorem dle_eOut {n : Nat} {p : Nat × List Nat} : dle (n + 1) (eOut p) = true := by simp [eOut, dle_tup, dles_cons, dles_nil]
@[simp] theorem dle_eRule {n : Nat} {p : Rule} : dle (n + 3) (eRule p) = true := by simp [eRule, dle_tup, dles_cons, dles_nil, dle_lst]
@[simp] theorem dle_eSw {n : Nat} {p : Nat × List Rule} : dle (n + 5) (eSw p) = true := by simp [eSw, dle_tup, dles_cons, dles_nil, dle_lst]
@[simp] theorem dle_eLn {n : Nat} {p : Pl × Pl} : dle (n + 2) (eLn p) = true := by simp [eLn, dle_tup, dles_cons, dles_nil]
@[simp] theorem dle_eNet {n : Nat} {p : Net} : dle (n + 7) (eNet p) = true := by simp [eNet, dle_tup, dles_cons, dles_nil, dle_lst]
theorem eqD_tup {xs ys : List D} : eqD (.tup xs) (.tup ys) = eqDs xs ys := rfl
theorem eqDs_cons {x y : D} {xs ys : List D} : eqDs (x :: xs) (y :: ys) = (eqD x y && eqDs xs ys) := rfl
@[simp] theorem eqD_ePl {p q : Pl} : eqD (ePl p) (ePl q) = decide (p = q) := by
  obtain ⟨a, b⟩ := p
  obtain ⟨c, d⟩ := q
  simp only [ePl, eqD, eqDs, Bool.and_true]
  rw [Bool.eq_iff_iff]
  simp
  omega
@[simp] theorem eqD_ePlN {p : Pl} : eqD (ePl p) .non = false := rfl
@[simp] theorem eqD_NePl {p : Pl} : eqD .non (ePl p) = false := rfl
@[simp] theorem eqD_eOPl {p q : Option Pl} : eqD (eOPl p) (eOPl q) = decide (p = q) := by cases p <;> cases q <;> simp [eOPl, eqD]
theorem gIsN_pl {p : Pl} {neg : Bool} : gIsN neg (ePl p) .non = .ok (.bl (false != neg)) := rfl
theorem gIsN_oPl {p : Option Pl} {neg : Bool} : gIsN neg (eOPl p) .non = .ok (.bl (p.isNone != neg)) := by cases p <;> rfl
theorem gIsN_eO {p : Option Nat} {neg : Bool} : gIsN neg (eO p) .non = .ok (.bl (p.isNone != neg)) := by cases p <;> rfl
@[simp] theorem eqD_eO {p : Option Nat} {k : Nat} : eqD (eO p) (.int k) = decide (p = some k) := by
  cases p with
  | none => rfl
  | some n => simp [eO, eqD]; rw [Bool.eq_iff_iff]; simp; omega
@[simp] theorem eqD_Oe {p : Option Nat} {k : Nat} : eqD (.int k) (eO p) = decide (p = some k) := by
  cases p with
  | none => rfl
  | some n => simp [eO, eqD]; rw [Bool.eq_iff_iff]; simp; omega
@[simp] theorem eqD_eON {p : Option Nat} : eqD (eO p) .non = p.isNone := by cases p <;> rfl
@[simp] theorem eqD_NeO {p : Option Nat} : eqD .non (eO p) = p.isNone := by cases p <;> rfl
@[simp] theorem ix_net0 {n : Net} : gIx (eNet n) (.int 0) = .ok (.int n.w) := rfl
@[simp] theorem ix_net1 {n : Net} : gIx (eNet n) (.int 1) = .ok (.lst false (n.sw.map eSw)) := rfl
@[simp] theorem ix_net2 {n : Net} : gIx (eNet n) (.int 2) = .ok (.lst false (n.ln.map eLn)) := rfl
@[simp] theorem ix_pl0 {n : Pl} : gIx (ePl n) (.int 0) = .ok (.int n.1) := rfl
@[simp] theorem ix_pl1 {n : Pl} : gIx (ePl n) (.int 1) = .ok (.int n.2) := rfl
@[simp] theorem ix_sw0 {n : Nat × List Rule} : gIx (eSw n) (.int 0) = .ok (.int n.1) := rfl
@[simp] theorem ix_sw1 {n : Nat × List Rule} : gIx (eSw n) (.int 1) = .ok (.lst false (n.2.map eRule)) := rfl
@[simp] theorem ix_rule0 {n : Rule} : gIx (eRule n) (.int 0) = .ok (eO n.door) := rfl
@[simp] theorem ix_rule1 {n : Rule} : gIx (eRule n) (.int 1) = .ok (.str n.pat) := rfl
@[simp] theorem ix_rule2 {n : Rule} : gIx (eRule n) (.int 2) = .ok (.lst false (n.outs.map eOut)) := rfl
@[simp] theorem tg_ln {r : DL.Env} {g : List D → DL.Env → Out DL.Env} {l : Pl × Pl} : sT 2 g (eLn l) r = g [ePl l.1, ePl l.2] r := rfl
@[simp] theorem tg_out {r : DL.Env} {g : List D → DL.Env → Out DL.Env} {l : Nat × List Nat} : sT 2 g (eOut l) r = g [.int l.1, .str l.2] r := rfl
@[simp] theorem tg_sw {r : DL.Env} {g : List D → DL.Env → Out DL.Env} {l : Nat × List Rule} : sT 2 g (eSw l) r = g [.int l.1, .lst false (l.2.map eRule)] r := rfl
@[simp] theorem tg_rule {r : DL.Env} {g : List D → DL.Env → Out DL.Env} {l : Rule} : sT 3 g (eRule l) r = g [eO l.door, .str l.pat, .lst false (l.outs.map eOut)] r := rfl
@[simp] theorem tg_pl {r : DL.Env} {g : List D → DL.Env → Out DL.Env} {l : Pl} : sT 2 g (ePl l) r = g [.int l.1, .int l.2] r := rfl
@[simp] theorem tg_net {r : DL.Env} {g : List D → DL.Env → Out DL.Env} {n : Net} : sT 3 g (eNet n) r = g [.int n.w, .lst false (n.sw.map eSw), .lst false (n.ln.map eLn)] r := rfl
/-! what comes -/
def eCome (c : Bool × Pl × List Nat) : D := .tup [.str (if c.1 = true then [105, 110] else [111, 117, 116]), ePl c.2.1, .str c.2.2]
@[simp] theorem frz_eCome {c : Bool × Pl × List Nat} : frz (eCome c) = eCome c := by simp [eCome]
@[simp] theorem shr_eCome {c : Bool × Pl × List Nat} : shr (eCome c) = false := by simp [eCome]
@[simp] theorem plain_eCome {c : Bool × Pl × List Nat} : plainD (eCome c) = true := by simp [eCome, plain_lst, plain_tup, plains_cons, plains_nil, plainD]
@[simp] theorem dle_eCome {n : Nat} {c : Bool × Pl × List Nat} : dle (n + 2) (eCome c) = true := by simp [eCome, dle_tup, dles_cons, dles_nil]
/-! what the net does with a head -/
def otherE : List (Pl × Pl) → Pl → Option Pl
  | [], _ => none
  | l :: ls, p => if p = l.1 then some l.2 else if p = l.2 then some l.1 else otherE ls p
def metB (r : Rule) (door : Nat) (h : List Nat) : Bool := (r.door == none || r.door == some door) && fitsB r.pat h
def numMet (rs : List Rule) (door : Nat) (h : List Nat) : Option Nat := rs.findIdx? fun r => metB r door h
def ledL (n : Net) (sw : Nat) (o : Nat × List Nat) (h : List Nat) : Bool × Pl × List Nat := match otherE n.ln (sw, o.1) with
  | none => (false, (sw, o.1), putL h o.2)
  | some q => (true, q, putL h o.2)
def rulesAt (n : Net) (k : Nat) : List Rule := (n.sw.getD k (0, [])).2
def doorsAt (n : Net) (k : Nat) : Nat := (n.sw.getD k (0, [])).1
def comeL (n : Net) (p : Pl) (h : List Nat) : List (Bool × Pl × List Nat) := match numMet (rulesAt n p.1) p.2 h with
  | none => []
  | some k => ((rulesAt n p.1).getD k ⟨none, [], []⟩).outs.map fun o => ledL n p.1 o h
def OkPl (n : Net) (p : Pl) : Prop := p.1 < n.sw.length ∧ p.2 < doorsAt n p.1
instance {n : Net} {p : Pl} : Decidable (OkPl n p) := inferInstanceAs (Decidable (_ ∧ _))
/-- a rule of patterns of width w, for so many doors -/
structure OkR (w d : Nat) (r : Rule) : Prop where
  door : ∀ k, r.door = some k → k < d
  pl : r.pat.length = w
  pp : IsP r.pat
  ol : r.outs.length ≤ 3
  od : ∀ o ∈ r.outs, o.1 < d ∧ o.2.length = w ∧ IsP o.2
def ltPl (p q : Pl) : Bool := decide (p.1 < q.1) || (decide (p.1 = q.1) && decide (p.2 < q.2))
theorem ltPl_or {p q : Pl} (h : p ≠ q) : (ltPl p q = true ∧ ltPl q p = false) ∨ (ltPl p q = false ∧ ltPl q p = true) := by
  obtain ⟨a, b⟩ := p
  obtain ⟨c, d⟩ := q
  simp [ltPl] at h ⊢
  omega
def allPl (ss : List (Nat × List Rule)) : List Pl := ss.zipIdx.flatMap fun s => (List.range s.1.1).map fun d => (s.2, d)
def endsL (ls : List (Pl × Pl)) : List Pl := ls.flatMap fun l => [l.1, l.2]
structure OkN (n : Net) : Prop where
  w0 : 1 ≤ n.w
  w1 : n.w ≤ 16
  s0 : 1 ≤ n.sw.length
  s1 : n.sw.length ≤ 8
  d : ∀ s ∈ n.sw, 1 ≤ s.1 ∧ s.1 ≤ 6 ∧ s.2.length ≤ 20 ∧ ∀ r ∈ s.2, OkR n.w s.1 r
  l1 : n.ln.length ≤ 24
  lp : ∀ l ∈ n.ln, OkPl n l.1 ∧ OkPl n l.2
  lt : ∀ l ∈ n.ln, ltPl l.1 l.2 = true
  nd : (endsL n.ln).Nodup
theorem OkN.rules {n : Net} (h : OkN n) {k : Nat} : ∀ r ∈ rulesAt n k, OkR n.w (doorsAt n k) r := by
  intro r hr
  unfold rulesAt doorsAt at *
  by_cases hk : k < n.sw.length
  · simp [hk] at hr ⊢
    exact (h.d _ (List.getElem_mem hk)).2.2.2 r hr
  · simp [hk] at hr
theorem OkN.rlen {n : Net} (h : OkN n) {k : Nat} : (rulesAt n k).length ≤ 20 := by
  unfold rulesAt
  by_cases hk : k < n.sw.length
  · simp [hk]
    exact (h.d _ (List.getElem_mem hk)).2.2.1
  · simp [hk]
theorem OkN.dle {n : Net} (h : OkN n) {k : Nat} : doorsAt n k ≤ 6 := by
  unfold doorsAt
  by_cases hk : k < n.sw.length
  · simp [hk]
    exact (h.d _ (List.getElem_mem hk)).2.1
  · simp [hk]
theorem findIdx_lt {α : Type} {p : α → Bool} : ∀ {xs : List α} {k : Nat}, xs.findIdx? p = some k → k < xs.length := by
  intro xs k h
  exact (List.findIdx?_eq_some_iff_getElem.mp h).1
theorem mem_allPl {n : Net} {p : Pl} : p ∈ allPl n.sw ↔ OkPl n p := by
  unfold allPl
  rw [List.mem_flatMap]
  constructor
  · rintro ⟨⟨s, i⟩, hs, hp⟩
    rw [List.mem_zipIdx_iff_getElem?] at hs
    simp at hp
    obtain ⟨d, hd, rfl⟩ := hp
    have hi : i < n.sw.length := by
      refine Nat.lt_of_not_le fun z => ?_
      rw [List.getElem?_eq_none z] at hs
      cases hs
    refine ⟨hi, ?_⟩
    unfold doorsAt
    simp only at hs
    simp [List.getD, hs]
    exact hd
  · rintro ⟨h1, h2⟩
    refine ⟨(n.sw[p.1], p.1), by rw [List.mem_zipIdx_iff_getElem?]; simp [h1], ?_⟩
    simp
    refine ⟨p.2, ?_, rfl⟩
    unfold doorsAt at h2
    simpa [h1] using h2
theorem nodup_flat {α β : Type} (f : α → List β) : ∀ xs : List α, (∀ x ∈ xs, (f x).Nodup) → xs.Pairwise (fun a b => ∀ x ∈ f a, ∀ y ∈ f b, x ≠ y) → (xs.flatMap f).Nodup
  | [], _, _ => List.nodup_nil
  | x :: xs, h, hp => by
    rw [List.flatMap_cons, List.nodup_append]
    have hp := List.pairwise_cons.mp hp
    refine ⟨h x (List.mem_cons_self ..), nodup_flat f xs (fun y hy => h y (List.mem_cons_of_mem _ hy)) hp.2, ?_⟩
    intro a ha b hb
    obtain ⟨y, hy, hb⟩ := List.mem_flatMap.mp hb
    exact hp.1 y hy a ha b hb
theorem nodup_mapI {α β : Type} {f : α → β} (hf : ∀ a b, f a = f b → a = b) : ∀ {xs : List α}, xs.Nodup → (xs.map f).Nodup
  | [], _ => List.nodup_nil
  | x :: xs, h => by
    rw [List.map_cons, List.nodup_cons]
    have h := List.nodup_cons.mp h
    refine ⟨fun m => ?_, nodup_mapI hf h.2⟩
    obtain ⟨y, hy, e⟩ := List.mem_map.mp m
    cases hf y x e
    exact h.1 hy
theorem nodup_allPl (ss : List (Nat × List Rule)) : (allPl ss).Nodup := by
  refine nodup_flat _ _ (fun s _ => nodup_mapI (fun a b e => (Prod.mk.inj e).2) List.nodup_range) ?_
  have : (ss.zipIdx).Pairwise fun a b => a.2 ≠ b.2 := by
    rw [List.pairwise_iff_getElem]
    intro i j hi hj hij
    simp
    omega
  refine this.imp ?_
  intro a b hab x hx y hy e
  simp at hx hy
  obtain ⟨d, _, rfl⟩ := hx
  obtain ⟨d', _, rfl⟩ := hy
  exact hab (congrArg Prod.fst e)
end My

namespace My
open PySem L2 DL
variable {X : Xc → DL.Env → Prop}
/-- a thing that isinstance may be asked of -/
def isiOk : D → Bool
  | .scr _ => false
  | .dT false _ _ => false
  | .exc _ _ _ => false
  | .any => false
  | _ => true
def isWholeD : D → Bool
  | .int _ => true
  | _ => false
def belowD (d : D) (n : Int) : Bool := match d with
  | .int i => decide (0 ≤ i) && decide (i < n)
  | _ => false
theorem whole_eq {d : D} (h : isiOk (frz d) = true) : m_is_whole [d] = .ok (.bl (isWholeD d)) := by
  refine WO.eq ?_
  unfold m_is_whole
  rw [WO_runP (by rfl)]
  unfold g_is_whole
  cases d with
  | dT b ks xs => simp [isiOk] at h
  | _ => first | (simp [isWholeD]; done) | (simp [isiOk] at h)
theorem below_eq {d : D} {n : Int} (h : isiOk (frz d) = true) (hf : frz (frz d) = frz d) : m_is_below [d, .int n] = .ok (.bl (belowD d n)) := by
  refine WO.eq ?_
  unfold m_is_below
  rw [WO_runP (by rfl)]
  unfold g_is_below
  simp
  rw [whole_eq (by rw [hf]; exact h)]
  cases d with
  | int i => by_cases h0 : 0 ≤ i <;> simp [isWholeD, belowD, h0]
  | any => simp [isiOk] at h
  | _ => simp [isWholeD, belowD]
/-- whether a thing is a place, the doors of the switches told -/
def placeD (ds : List Nat) : D → Bool
  | .tup [.int i, .int j] => decide (0 ≤ i) && decide (i < ds.length) && decide (0 ≤ j) && decide (j < (ds.getD i.toNat 0 : Nat))
  | _ => false
theorem placeD_pl {ds : List Nat} {p : Pl} : placeD ds (ePl p) = (decide (p.1 < ds.length) && decide (p.2 < ds.getD p.1 0)) := by
  simp [placeD, ePl]
theorem frz_idem : ∀ d : D, frz (frz d) = frz d := by
  have key : ∀ n : Nat, ∀ d : D, sizeOf d ≤ n → frz (frz d) = frz d := by
    intro n
    induction n with
    | zero => intro d h; cases d <;> simp at h
    | succ n ih =>
      have ihs : ∀ xs : List D, sizeOf xs ≤ n → frzs (frzs xs) = frzs xs := by
        intro xs h
        rw [frzs_map, frzs_map, List.map_map]
        refine List.map_congr_left fun x hx => ih x ?_
        have := List.sizeOf_lt_of_mem hx
        omega
      intro d h
      cases d <;> simp only [frz] <;> first | rfl | skip
      all_goals (simp at h; rw [ihs _ (by omega)])
  exact fun d => key _ d (Nat.le_refl _)
theorem place_eq {ss : List (Nat × List Rule)} {d : D} (h : ∀ xs, frz d = .tup xs → ∀ x ∈ xs, isiOk x = true) (hi : isiOk (frz d) = true) (hl : ss.length ≤ 1000) : m_is_place [.lst false (ss.map eSw), frz d] = .ok (.bl (placeD (ss.map (·.1)) (frz d))) := by
  refine WO.eq ?_
  unfold m_is_place
  rw [WO_runP (by rfl)]
  unfold g_is_place
  generalize hd : frz d = d'
  have hdd : frz d' = d' := by rw [← hd]; exact frz_idem d
  rw [hd] at h hi
  cases d' with
  | tup xs =>
    have hxs : frzs xs = xs := by simpa using hdd
    simp [hxs]
    by_cases h2 : xs.length = 2
    · match xs, h2 with
      | [x, y], _ =>
        have hx := h _ rfl x (by simp)
        have hy := h _ rfl y (by simp)
        simp at hxs
        obtain ⟨fx, fy⟩ := hxs
        simp [eqD]
        rw [below_eq (by rw [fx]; exact hx) (frz_idem x)]
        cases x with
        | int i =>
          simp [belowD]
          by_cases h0 : 0 ≤ i
          · by_cases h1 : i < ss.length
            · simp [h0, h1]
              rw [atI_get h0 (by simpa using h1)]
              simp [eSw]
              rw [below_eq (by rw [fy]; exact hy) (frz_idem y)]
              simp
              cases y <;> simp [belowD, placeD, h0, h1, show i.toNat < ss.length by omega]
            · simp [h0, h1, placeD]
              cases y <;> simp [placeD, h0, h1]
          · simp [h0]
            cases y <;> simp [placeD, h0]
        | any => simp [isiOk] at hx
        | _ => simp [belowD, placeD]
    · have : (placeD (ss.map (·.1)) (.tup xs)) = false := by
        unfold placeD
        split
        · rename_i heq
          cases heq
          simp at h2
        · rfl
      rw [this]
      have h3 : ¬ (xs.length : Int) = 2 := by omega
      simp [eqD, h3]
  | dT b ks xs => cases b <;> simp [isiOk] at hi hdd
  | _ => first | (simp [placeD]; done) | (simp [isiOk] at hi)
end My

namespace My
open PySem L2 DL
variable {X : Xc → DL.Env → Prop}
/-- a text of so many of some signs -/
def isOfB (d : D) (w : Int) (ss : List Nat) : Bool := match d with
  | .str cs => decide ((cs.length : Int) = w) && cs.all fun c => decide (c ∈ ss)
  | _ => false
def shortT (d : D) : Prop := ∀ cs, d = .str cs → cs.length ≤ 1000
theorem isOf_eq {d : D} {w : Int} {ss : List Nat} (hi : isiOk (frz d) = true) (hl : shortT d) : m_is_of [d, .int w, .str ss] = .ok (.bl (isOfB d w ss)) := by
  refine WO.eq ?_
  unfold m_is_of
  rw [WO_runP (by rfl)]
  unfold g_is_of
  cases d with
  | str cs =>
    have hl := hl cs rfl
    simp [isOfB]
    refine ⟨by omega, ?_⟩
    by_cases e : (cs.length : Int) = w
    · simp [e]
      refine WO_cLcM (fun c : Nat => .str [c]) (fun c => .bl (ss.contains c)) cs (by simp) (by omega) ?_ ?_
      · intro c hc
        simp
      · simp
    · simp [e]
  | dT b ks xs => simp [isiOk] at hi
  | _ => first | (simp [isOfB]; done) | (simp [isiOk] at hi)
theorem head_eq {d : D} {w : Int} (hi : isiOk (frz d) = true) (hl : shortT d) (hf : frz d = d) : m_is_head [d, .int w] = .ok (.bl (isOfB d w [48, 49])) := by
  refine WO.eq ?_
  unfold m_is_head
  rw [WO_runP (by rfl)]
  unfold g_is_head
  simp [hf, isOf_eq hi hl]
theorem isOf_head {h : List Nat} {w : Nat} (hl : h.length = w) (hh : IsH h) : isOfB (.str h) w [48, 49] = true := by
  simp [isOfB, hl]
  intro c hc
  exact hh c hc
theorem isOf_pat {h : List Nat} {w : Nat} (hl : h.length = w) (hh : IsP h) : isOfB (.str h) w [48, 49, 42] = true := by
  simp [isOfB, hl]
  intro c hc
  exact hh c hc
end My

namespace My
open PySem L2 DL
variable {X : Xc → DL.Env → Prop}
theorem other_eq {n : Net} {p : Pl} : m_other_end [eNet n, ePl p] = .ok (eOPl (otherE n.ln p)) := by
  refine WO.eq ?_
  unfold m_other_end
  rw [WO_runP (by rfl)]
  unfold g_other_end
  simp
  refine for_of eLn (fun ls r => ∃ (x y : Option D), otherE n.ln p = otherE ls p ∧ r = [some (eNet n), some (ePl p), x, y]) n.ln ⟨none, none, rfl, rfl⟩ ?_ ?_
  · rintro ⟨a, c⟩ ls r K ⟨x, y, e, rfl⟩ hK
    simp [eqOk]
    rw [show otherE ((a, c) :: ls) p = if p = a then some c else if p = c then some a else otherE ls p from rfl] at e
    by_cases h1 : p = a
    · rw [if_pos h1] at e ⊢
      rw [e]; rfl
    · rw [if_neg h1] at e ⊢
      by_cases h2 : p = c
      · rw [if_pos h2] at e ⊢
        rw [e]; rfl
      · rw [if_neg h2] at e ⊢
        exact hK _ ⟨_, _, e, rfl⟩
  · rintro r ⟨x, y, e, rfl⟩
    simp [e, otherE, eOPl]
theorem met_eq {r : Rule} {k : Nat} {h : List Nat} (hp : r.pat.length ≤ 1000) : m_is_met [eRule r, .int k, .str h] = .ok (.bl (metB r k h)) := by
  refine WO.eq ?_
  unfold m_is_met
  rw [WO_runP (by rfl)]
  unfold g_is_met
  simp [fits_eq hp, inD]
  unfold metB
  cases hd : r.door with
  | none => simp
  | some j => by_cases e : j = k <;> simp [e]
theorem sw_at {n : Net} {k : Nat} (hk : k < n.sw.length) : atI (n.sw.map eSw) (k : Int) = some (eSw (doorsAt n k, rulesAt n k)) := by
  rw [atI_k (by simpa using hk)]
  simp [doorsAt, rulesAt, hk]
theorem number_eq {n : Net} {p : Pl} {h : List Nat} (hn : OkN n) (hp : OkPl n p) : m_number_met [eNet n, ePl p, .str h] = .ok (eO (numMet (rulesAt n p.1) p.2 h)) := by
  refine WO.eq ?_
  unfold m_number_met
  rw [WO_runP (by rfl)]
  unfold g_number_met
  simp [sw_at hp.1]
  have hz : ∀ rs : List Rule, ((rs.map eRule).zipIdx.map fun q => D.tup [.int (q.2 : Nat), q.1]) = rs.zipIdx.map fun q => D.tup [.int (q.2 : Nat), eRule q.1] := by
    intro rs
    rw [List.zipIdx_map, List.map_map]; rfl
  rw [hz]
  refine for_of (fun q : Rule × Nat => D.tup [.int (q.2 : Nat), eRule q.1]) (fun qs r => ∃ (j : Nat) (x y : Option D), qs = ((rulesAt n p.1).zipIdx).drop j ∧ (∀ i, i < j → ∀ q, (rulesAt n p.1)[i]? = some q → metB q p.2 h = false) ∧ r = [some (eNet n), some (ePl p), some (.str h), x, y]) _ ⟨0, none, none, rfl, fun i hi => (Nat.not_lt_zero i hi).elim, rfl⟩ ?_ ?_
  · rintro ⟨q, i⟩ qs r K ⟨j, x, y, e, hno, rfl⟩ hK
    have hj : j < (rulesAt n p.1).length := by
      refine Nat.lt_of_not_le fun hle => ?_
      rw [List.drop_eq_nil_of_le (by simpa using hle)] at e
      cases e
    rw [List.drop_eq_getElem_cons (by simpa using hj)] at e
    simp at e
    obtain ⟨⟨rfl, hij⟩, rfl⟩ := e
    obtain rfl : j = i := hij.symm
    have hq := hn.rules (k := p.1) _ (List.getElem_mem hj)
    have hw := hn.w1
    simp [met_eq (r := (rulesAt n p.1)[j]) (k := p.2) (h := h) (by rw [hq.pl]; omega)]
    by_cases hm : metB (rulesAt n p.1)[j] p.2 h = true
    · rw [if_pos hm]
      have : numMet (rulesAt n p.1) p.2 h = some j := by
        unfold numMet
        rw [List.findIdx?_eq_some_iff_getElem]
        refine ⟨hj, hm, fun i hi => ?_⟩
        simp [hno i hi _ (List.getElem?_eq_getElem (Nat.lt_trans hi hj))]
      rw [this]; rfl
    · rw [if_neg hm]
      refine hK _ ⟨j + 1, _, _, rfl, fun i hi q hq' => ?_, rfl⟩
      rcases Nat.lt_succ_iff_lt_or_eq.mp hi with hi | rfl
      · exact hno i hi q hq'
      · rw [List.getElem?_eq_getElem hj] at hq'
        cases hq'
        simpa using hm
  · rintro r ⟨j, x, y, e, hno, rfl⟩
    have hj : (rulesAt n p.1).length ≤ j := by
      have := congrArg List.length e
      simp at this
      omega
    have : numMet (rulesAt n p.1) p.2 h = none := by
      unfold numMet
      rw [List.findIdx?_eq_none_iff]
      intro q hq
      obtain ⟨i, hi, rfl⟩ := List.mem_iff_getElem.mp hq
      exact hno i (by omega) _ (List.getElem?_eq_getElem hi)
    simp [this, eO]
theorem led_eq {n : Net} {k : Nat} {o : Nat × List Nat} {h : List Nat} (hh : h.length ≤ 1000) : m_led_by [eNet n, .int k, eOut o, .str h] = .ok (eCome (ledL n k o h)) := by
  refine WO.eq ?_
  unfold m_led_by
  rw [WO_runP (by rfl)]
  unfold g_led_by
  have e : m_other_end [eNet n, .tup [.int (k : Nat), .int (o.1 : Nat)]] = .ok (eOPl (otherE n.ln (k, o.1))) := other_eq (p := (k, o.1))
  simp [e, put_eq hh]
  unfold ledL
  cases hz : otherE n.ln (k, o.1) with
  | none => simp [eOPl, eCome, ePl]
  | some q => simp [eOPl, gIsN_pl, eCome, put_eq hh]
theorem allcome_eq {n : Net} {p : Pl} {h : List Nat} (hn : OkN n) (hp : OkPl n p) (hh : h.length ≤ 1000) : m_all_come [eNet n, ePl p, .str h] = .ok (.lst true ((comeL n p h).map eCome)) := by
  refine WO.eq ?_
  unfold m_all_come
  rw [WO_runP (by rfl)]
  unfold g_all_come
  simp [number_eq hn hp, gIsN_eO]
  unfold comeL
  cases hm : numMet (rulesAt n p.1) p.2 h with
  | none => simp
  | some k =>
    have hk := findIdx_lt hm
    have hR := hn.rules (k := p.1) _ (List.getElem_mem hk)
    simp [eO]
    refine WO_cLcM eOut (fun o => eCome (ledL n p.1 o h)) ((rulesAt n p.1)[k]).outs ?_ ?_ ?_ ?_
    · simp [sw_at hp.1, atI_k (xs := (rulesAt n p.1).map eRule) (k := k) (by simpa using hk)]
    · have := hR.ol
      omega
    · intro o ho
      simp [led_eq hh]
    · simp [hk]
end My

namespace My
open PySem L2 DL
variable {X : Xc → DL.Env → Prop}
theorem doors_map {n : Net} {k : Nat} : (n.sw.map (·.1)).getD k 0 = doorsAt n k := by
  unfold doorsAt
  by_cases h : k < n.sw.length <;> simp [h]
theorem placeD_ok {n : Net} {p : Pl} : placeD (n.sw.map (·.1)) (ePl p) = decide (OkPl n p) := by
  rw [placeD_pl, doors_map]
  by_cases h : OkPl n p
  · rw [decide_eq_true h]; simp [h.1, h.2]
  · rw [decide_eq_false h]
    simp
    intro h1
    exact Nat.le_of_not_lt fun h2 => h ⟨h1, h2⟩
theorem place_pl {n : Net} {p : Pl} (hn : OkN n) : m_is_place [.lst false (n.sw.map eSw), ePl p] = .ok (.bl (decide (OkPl n p))) := by
  have h1 := hn.s1
  have := place_eq (ss := n.sw) (d := ePl p) (fun xs h x hx => by
    simp [ePl] at h
    subst h
    simp at hx
    rcases hx with rfl | rfl <;> rfl) rfl (by omega)
  rw [frz_ePl, placeD_ok] at this
  exact this
theorem look_ok {n : Net} {p : Pl} (hn : OkN n) (hp : OkPl n p) : m_look_at_place [eNet n, ePl p] = .ok .non := by
  refine WO.eq ?_
  unfold m_look_at_place
  rw [WO_runP (by rfl)]
  unfold g_look_at_place
  simp [place_pl hn, hp]
theorem lookc_ok {n : Net} {p : Pl} {h : List Nat} (hn : OkN n) (hp : OkPl n p) (hl : h.length = n.w) (hh : IsH h) : m_look_at_come [eNet n, ePl p, .str h] = .ok .non := by
  refine WO.eq ?_
  have hw := hn.w1
  unfold m_look_at_come
  rw [WO_runP (by rfl)]
  unfold g_look_at_come
  simp [look_ok hn hp, head_eq (d := .str h) rfl (fun cs e => by cases e; omega) rfl, isOf_head hl hh]
theorem rulemet_eq {n : Net} {p : Pl} {h : List Nat} (hn : OkN n) (hp : OkPl n p) (hl : h.length = n.w) (hh : IsH h) : m_rule_met [eNet n, ePl p, .str h] = .ok (eO (numMet (rulesAt n p.1) p.2 h)) := by
  refine WO.eq ?_
  unfold m_rule_met
  rw [WO_runP (by rfl)]
  unfold g_rule_met
  simp [lookc_ok hn hp hl hh, number_eq hn hp]
theorem comes_eq {n : Net} {p : Pl} {h : List Nat} (hn : OkN n) (hp : OkPl n p) (hl : h.length = n.w) (hh : IsH h) : m_comes [eNet n, ePl p, .str h] = .ok (.lst true ((comeL n p h).map eCome)) := by
  refine WO.eq ?_
  have hw := hn.w1
  unfold m_comes
  rw [WO_runP (by rfl)]
  unfold g_comes
  simp [lookc_ok hn hp hl hh, allcome_eq hn hp (show h.length ≤ 1000 by omega)]
/-! the law's own -/
theorem lacross_eq {n : Net} {p : Pl} : m__law_across [eNet n, ePl p] = .ok (eOPl (otherE n.ln p)) := by
  refine WO.eq ?_
  unfold m__law_across
  rw [WO_runP (by rfl)]
  unfold g__law_across
  simp
  refine for_of eLn (fun ls r => ∃ (x y : Option D), otherE n.ln p = otherE ls p ∧ r = [some (eNet n), some (ePl p), x, y]) n.ln ⟨none, none, rfl, rfl⟩ ?_ ?_
  · rintro ⟨a, c⟩ ls r K ⟨x, y, e, rfl⟩ hK
    simp [inD]
    rw [show otherE ((a, c) :: ls) p = if p = a then some c else if p = c then some a else otherE ls p from rfl] at e
    by_cases h1 : a = p
    · rw [if_pos h1.symm] at e
      simp [h1, e, eOPl]
    · by_cases h2 : c = p
      · rw [if_neg (Ne.symm h1), if_pos h2.symm] at e
        simp [h1, h2, e, eOPl, Ne.symm h1]
      · rw [if_neg (Ne.symm h1), if_neg (Ne.symm h2)] at e
        simp [h1, h2]
        exact hK _ ⟨_, _, e, rfl⟩
  · rintro r ⟨x, y, e, rfl⟩
    simp [e, otherE, eOPl]
theorem lrulemet_eq {n : Net} {p : Pl} {h : List Nat} (hn : OkN n) (hp : OkPl n p) (hl : h.length = n.w) : m__law_rule_met [eNet n, ePl p, .str h] = .ok (eO (numMet (rulesAt n p.1) p.2 h)) := by
  refine WO.eq ?_
  unfold m__law_rule_met
  rw [WO_runP (by rfl)]
  unfold g__law_rule_met
  simp [sw_at hp.1]
  have hz : ∀ rs : List Rule, ((rs.map eRule).zipIdx.map fun q => D.tup [.int (q.2 : Nat), q.1]) = rs.zipIdx.map fun q => D.tup [.int (q.2 : Nat), eRule q.1] := by
    intro rs
    rw [List.zipIdx_map, List.map_map]; rfl
  rw [hz]
  refine for_of (fun q : Rule × Nat => D.tup [.int (q.2 : Nat), eRule q.1]) (fun qs r => ∃ (j : Nat) (x y : Option D), qs = ((rulesAt n p.1).zipIdx).drop j ∧ (∀ i, i < j → ∀ q, (rulesAt n p.1)[i]? = some q → metB q p.2 h = false) ∧ r = [some (eNet n), some (ePl p), some (.str h), x, y]) _ ⟨0, none, none, rfl, fun i hi => (Nat.not_lt_zero i hi).elim, rfl⟩ ?_ ?_
  · rintro ⟨q, i⟩ qs r K ⟨j, x, y, e, hno, rfl⟩ hK
    have hj : j < (rulesAt n p.1).length := by
      refine Nat.lt_of_not_le fun hle => ?_
      rw [List.drop_eq_nil_of_le (by simpa using hle)] at e
      cases e
    rw [List.drop_eq_getElem_cons (by simpa using hj)] at e
    simp at e
    obtain ⟨⟨rfl, hij⟩, rfl⟩ := e
    obtain rfl : j = i := hij.symm
    have hq := hn.rules (k := p.1) _ (List.getElem_mem hj)
    have hw := hn.w1
    have hr : ∀ b : Bool, metB (rulesAt n p.1)[j] p.2 h = b → (if b = true then (D.int (j : Nat) = eO (numMet (rulesAt n p.1) p.2 h)) else K [some (eNet n), some (ePl p), some (.str h), some (.int (j : Nat)), some (eRule (rulesAt n p.1)[j])]) := by
      intro b hb
      cases b with
      | true =>
        have : numMet (rulesAt n p.1) p.2 h = some j := by
          unfold numMet
          rw [List.findIdx?_eq_some_iff_getElem]
          refine ⟨hj, hb, fun i hi => ?_⟩
          simp [hno i hi _ (List.getElem?_eq_getElem (Nat.lt_trans hi hj))]
        simp [this, eO]
      | false =>
        refine hK _ ⟨j + 1, _, _, rfl, fun i hi q hq' => ?_, rfl⟩
        rcases Nat.lt_succ_iff_lt_or_eq.mp hi with hi | rfl
        · exact hno i hi q hq'
        · rw [List.getElem?_eq_getElem hj] at hq'
          cases hq'
          exact hb
    have hr := hr _ rfl
    simp [inD, lawfits_eq (p := (rulesAt n p.1)[j].pat) (h := h) (by rw [hq.pl]; omega) (by rw [hq.pl]; omega)]
    unfold metB at hr
    cases hd : (rulesAt n p.1)[j].door with
    | none => simp [hd] at hr ⊢; exact hr
    | some m =>
      by_cases em : m = p.2
      · simp [hd, em] at hr ⊢; exact hr
      · simp [hd, em, Ne.symm em] at hr ⊢; exact hr
  · rintro r ⟨j, x, y, e, hno, rfl⟩
    have hj : (rulesAt n p.1).length ≤ j := by
      have := congrArg List.length e
      simp at this
      omega
    have : numMet (rulesAt n p.1) p.2 h = none := by
      unfold numMet
      rw [List.findIdx?_eq_none_iff]
      intro q hq
      obtain ⟨i, hi, rfl⟩ := List.mem_iff_getElem.mp hq
      exact hno i (by omega) _ (List.getElem?_eq_getElem hi)
    simp [this, eO]
theorem lcomes_eq {n : Net} {p : Pl} {h : List Nat} (hn : OkN n) (hp : OkPl n p) (hl : h.length = n.w) : ∃ b, m__law_comes [eNet n, ePl p, .str h] = .ok (.lst b ((comeL n p h).map eCome)) := by
  have hw := hn.w1
  have hh : h.length ≤ 1000 := by omega
  suffices WO' XF (m__law_comes [eNet n, ePl p, .str h]) fun d => ∃ b, d = .lst b ((comeL n p h).map eCome) by
    obtain ⟨d, h1, b, rfl⟩ := WO'.ok this
    exact ⟨b, h1⟩
  unfold m__law_comes
  rw [WO_runP (by rfl)]
  unfold g__law_comes
  simp [lrulemet_eq hn hp hl, gIsN_eO]
  unfold comeL
  cases hm : numMet (rulesAt n p.1) p.2 h with
  | none => simp
  | some k =>
    have hk := findIdx_lt hm
    have hR := hn.rules (k := p.1) _ (List.getElem_mem hk)
    have hol := hR.ol
    simp [eO, sw_at hp.1, atI_k (xs := (rulesAt n p.1).map eRule) (k := k) (by simpa using hk)]
    refine for_of eOut (fun os r => ∃ (ds : List (Nat × List Nat)) (x y z : Option D), ((rulesAt n p.1)[k]).outs = ds ++ os ∧ r = [some (eNet n), some (ePl p), some (.str h), some (.int (k : Nat)), some (.lst true (ds.map fun o => eCome (ledL n p.1 o h))), x, y, z]) _ ⟨[], none, none, none, rfl, rfl⟩ ?_ ?_
    · rintro ⟨d, b⟩ os r K ⟨ds, x, y, z, e, rfl⟩ hK
      have ho := hR.od (d, b) (by rw [e]; simp)
      have hlen : ds.length + (os.length + 1) ≤ 3 := by
        have := congrArg List.length e
        simp at this
        omega
      have ea : m__law_across [eNet n, .tup [.int (p.1 : Nat), .int (d : Nat)]] = .ok (eOPl (otherE n.ln (p.1, d))) := lacross_eq (p := (p.1, d))
      have ep : m__law_put [.str h, .str b] = .ok (.str (putL h b)) := lawput_eq (by rw [hl]; exact ho.2.1.symm) hh
      have kk : ∀ w1 w2 w3, K [some (eNet n), some (ePl p), some (.str h), some (.int (k : Nat)), some (.lst true (ds.map (fun o => eCome (ledL n p.1 o h)) ++ [eCome (ledL n p.1 (d, b) h)])), w1, w2, w3] := fun w1 w2 w3 => hK _ ⟨ds ++ [(d, b)], w1, w2, w3, by rw [e]; simp, by simp⟩
      simp [ea]
      unfold ledL at kk
      cases ho : otherE n.ln (p.1, d) with
      | none =>
        simp [ho, eCome] at kk
        simp [eOPl, ep]
        exact ⟨by omega, kk _ _ _⟩
      | some q =>
        simp [ho, eCome] at kk
        simp [eOPl, gIsN_pl, ep]
        exact ⟨by omega, kk _ _ _⟩
    · rintro r ⟨ds, x, y, z, e, rfl⟩
      simp at e
      simp [hk, e]
end My

namespace My
open PySem L2 DL
variable {X : Xc → DL.Env → Prop}
theorem lpattern_spec {p : D} {w : Nat} (hp : Pool p) (h1 : w ≤ 16) {P : D × D → Prop} (h : ∀ (cs : List Nat) (q : D), cs.length = w → IsP cs → Pool q → P (.str cs, q)) : WO' X (m__law_pattern [p, .int w]) P := by
  refine WO'.up ?_
  unfold m__law_pattern
  rw [WO_runX (by rfl)]
  unfold g__law_pattern
  refine WS_step fun K hK => ?_
  simp
  refine take_spec hp (by omega) (by omega) fun x p h3 hp => ?_
  obtain ⟨a, e, hm⟩ := WO_at (xs := [D.str [48, 49, 42], D.str [42, 42, 42, 48, 49], D.str [48, 42], D.str [49, 42]]) (Int.natCast_nonneg x) h3
  have ha : ∃ u, a = .str u ∧ IsP u ∧ 0 < u.length ∧ u.length ≤ 1000 := by
    simp only [List.mem_cons, List.not_mem_nil, or_false] at hm
    rcases hm with rfl | rfl | rfl | rfl <;> refine ⟨_, rfl, ?_, by decide, by decide⟩ <;> intro c hc <;> simp at hc <;> omega
  obtain ⟨u, rfl, hu, hu1, hu2⟩ := ha
  simp [e]
  refine hK _ ?_
  simp
  refine text_spec hp (by omega) (by omega) hu1 hu2 fun cs q h4 h5 hq => ?_
  simp
  exact h cs q (by omega) (fun c m => hu c (h5 c m)) hq
theorem stars_flat {w : Nat} : (List.replicate w [42]).flatten = List.replicate w 42 := by
  induction w with
  | zero => rfl
  | succ n ih => rw [List.replicate_succ, List.flatten_cons, ih]; rfl
theorem stars_isP {w : Nat} : IsP (List.replicate w 42) := fun c hc => .inr (.inr (List.mem_replicate.mp hc).2)
theorem lrule_spec {p : D} {w d : Nat} (hp : Pool p) (h1 : w ≤ 16) (hd : 0 < d) (hd' : d ≤ 100) {P : D × D → Prop} (h : ∀ (r : Rule) (q : D), OkR w d r → Pool q → P (eRule r, q)) : WO' X (m__law_rule [p, .int w, .int d]) P := by
  refine WO'.up ?_
  unfold m__law_rule
  rw [WO_runX (by rfl)]
  unfold g__law_rule
  refine WS_step fun K hK => ?_
  simp
  refine take_spec hp (by omega) (by omega) fun x p h3 hp => ?_
  simp
  refine take_spec hp (by omega) (by omega) fun y p h4 hp => ?_
  have hdr : ∃ o : Option Nat, (∀ k, o = some k → k < d) ∧ atI [D.non, D.non, D.int x] (y : Int) = some (eO o) := by
    have hy : y < 3 := by omega
    match y, hy with
    | 0, _ => exact ⟨none, fun k e => (nomatch e), rfl⟩
    | 1, _ => exact ⟨none, fun k e => (nomatch e), rfl⟩
    | 2, _ => exact ⟨some x, fun k e => by cases e; omega, rfl⟩
  obtain ⟨o, ho, eo⟩ := hdr
  simp [eo]
  refine hK _ (WS_step fun K hK => ?_)
  simp
  refine hK _ (WS_step fun K hK => ?_)
  simp
  refine take_spec hp (by omega) (by omega) fun z p h5 hp => ?_
  have hz : ∃ m : Nat, m ≤ 3 ∧ atI [D.int 1, D.int 1, D.int 1, D.int 2, D.int 2, D.int 3, D.int 0] (z : Int) = some (.int m) := by
    have hz : z < 7 := by omega
    match z, hz with
    | 0, _ => exact ⟨1, by decide, rfl⟩
    | 1, _ => exact ⟨1, by decide, rfl⟩
    | 2, _ => exact ⟨1, by decide, rfl⟩
    | 3, _ => exact ⟨2, by decide, rfl⟩
    | 4, _ => exact ⟨2, by decide, rfl⟩
    | 5, _ => exact ⟨3, by decide, rfl⟩
    | 6, _ => exact ⟨0, by decide, rfl⟩
  obtain ⟨m, hm, em⟩ := hz
  simp [em]
  refine ⟨by omega, ?_⟩
  rw [rng_map]
  refine for_of _ (fun (ks : List Nat) r => ∃ (os : List (Nat × List Nat)) (q : D) (u v : Option D), os.length + ks.length = m ∧ (∀ o ∈ os, o.1 < d ∧ o.2.length = w ∧ IsP o.2) ∧ Pool q ∧ r = [some q, some (.int w), some (.int d), some (eO o), some (.lst true (os.map eOut)), u, v]) _ ⟨[], p, none, none, by simp, fun _ h => (nomatch h), hp, rfl⟩ ?_ ?_
  · rintro k ks r K ⟨os, q, u, v, hl, hos, hq, rfl⟩ hK
    simp at hl ⊢
    refine ⟨by omega, text_spec hq (by omega) (by omega) (by decide) (by decide) fun cs q h6 h7 hq => ?_⟩
    simp
    refine take_spec hq (by omega) (by omega) fun y q h8 hq => ?_
    have hb : ∃ b : List Nat, b.length = w ∧ IsP b ∧ atI [D.str (List.replicate w 42), D.str cs] (y : Int) = some (.str b) := by
      have hy : y < 2 := by omega
      match y, hy with
      | 0, _ => exact ⟨_, List.length_replicate .., stars_isP, rfl⟩
      | 1, _ => exact ⟨cs, by omega, fun c m => by have := h7 c m; simp at this; omega, rfl⟩
    obtain ⟨b, hb1, hb2, eb⟩ := hb
    simp [eb, stars_flat]
    refine take_spec hq (by omega) (by omega) fun z q h9 hq => ?_
    simp
    refine ⟨by omega, hK _ ⟨os ++ [(z, b)], q, some (.int k), some (.str b), by simp; omega, ?_, hq, by simp [eOut]⟩⟩
    intro o ho
    rcases List.mem_append.mp ho with ho | ho
    · exact hos o ho
    · cases List.mem_singleton.mp ho
      exact ⟨by show z < d; omega, hb1, hb2⟩
  · rintro r ⟨os, q, u, v, hl, hos, hq, rfl⟩
    simp at hl ⊢
    refine hK _ ?_
    simp
    refine lpattern_spec hq h1 fun cs q h6 h7 hq => ?_
    simp
    exact h ⟨o, cs, os⟩ q ⟨ho, h6, h7, by show os.length ≤ 3; omega, hos⟩ hq
/-- the switches of a net of the law -/
def OkSs (w : Nat) (ss : List (Nat × List Rule)) : Prop := ∀ s ∈ ss, 1 ≤ s.1 ∧ s.1 ≤ 3 ∧ s.2.length ≤ 5 ∧ ∀ r ∈ s.2, OkR w s.1 r
theorem ePl_min {a b : Pl} (h : a ≠ b) : WO' X (gMnD [ePl a, ePl b]) (fun d => d = ePl (if ltPl b a = true then b else a)) := by
  rw [WO_gPick]
  refine ⟨ordOk2_pair _ _ _ _, ?_⟩
  have : ltD (ePl b) (ePl a) = ltPl b a := by
    simp only [ePl, ltD_pair, ltPl]
    rw [Bool.eq_iff_iff]; simp; omega
  rw [this]
  split <;> rfl
theorem ePl_max {a b : Pl} (h : a ≠ b) : WO' X (gMxD [ePl a, ePl b]) (fun d => d = ePl (if ltPl b a = true then a else b)) := by
  rw [WO_gPick]
  refine ⟨ordOk2_pair _ _ _ _, ?_⟩
  have : ltD (ePl a) (ePl b) = ltPl a b := by
    simp only [ePl, ltD_pair, ltPl]
    rw [Bool.eq_iff_iff]; simp; omega
  rw [this]
  rcases ltPl_or h with ⟨h1, h2⟩ | ⟨h1, h2⟩ <;> simp [h1, h2]
theorem sum_le {α : Type} {f : α → Nat} {k : Nat} : ∀ {xs : List α}, (∀ x ∈ xs, f x ≤ k) → (xs.map f).sum ≤ xs.length * k
  | [], _ => by simp
  | x :: xs, h => by
    have h1 := h x (List.mem_cons_self ..)
    have h2 := sum_le (xs := xs) fun y hy => h y (List.mem_cons_of_mem _ hy)
    rw [List.map_cons, List.sum_cons, List.length_cons, Nat.succ_mul]
    omega
theorem mem_zip_ss {ss : List (Nat × List Rule)} {a : (Nat × List Rule) × Nat} (h : a ∈ ss.zipIdx) : a.1 ∈ ss := (List.mem_zipIdx h).2.2 ▸ List.getElem_mem _
theorem allPl_len {w : Nat} {ss : List (Nat × List Rule)} (h : OkSs w ss) : (allPl ss).length ≤ ss.length * 3 := by
  unfold allPl
  rw [List.length_flatMap]
  have := sum_le (f := fun s : (Nat × List Rule) × Nat => s.1.1) (k := 3) (xs := ss.zipIdx) fun a ha => (h _ (mem_zip_ss ha)).2.1
  simpa using this
theorem er_map {α β : Type} (f : α → β) : ∀ (xs : List α) (k : Nat), (xs.map f).eraseIdx k = (xs.eraseIdx k).map f
  | [], k => by cases k <;> rfl
  | x :: xs, 0 => rfl
  | x :: xs, k + 1 => by
    show f x :: (xs.map f).eraseIdx k = f x :: (xs.eraseIdx k).map f
    rw [er_map f xs k]
theorem er_len {α : Type} {xs : List α} {k : Nat} (h : k < xs.length) : (xs.eraseIdx k).length = xs.length - 1 := by
  rw [List.length_eraseIdx, if_pos h]
theorem perm_er {α : Type} : ∀ {xs : List α} {k : Nat} (h : k < xs.length), (xs[k] :: xs.eraseIdx k).Perm xs
  | x :: xs, 0, _ => List.Perm.refl _
  | x :: xs, k + 1, h => by
    show (xs[k]'(by simpa using h) :: x :: xs.eraseIdx k).Perm (x :: xs)
    exact (List.Perm.swap ..).trans ((perm_er (xs := xs) (by simpa using h)).cons x)
theorem endsL_app {ls : List (Pl × Pl)} {l : Pl × Pl} : endsL (ls ++ [l]) = endsL ls ++ [l.1, l.2] := by simp [endsL]
theorem lnet_spec {p : D} {w most : Nat} (hp : Pool p) (h0 : 1 ≤ w) (h1 : w ≤ 16) (hm : 0 < most) (hm' : most ≤ 8) {P : D × D → Prop} (h : ∀ (n : Net) (q : D), OkN n → n.w = w → OkSs w n.sw → n.sw.length ≤ most → Pool q → P (eNet n, q)) : WO' X (m__law_net [p, .int w, .int most]) P := by
  refine WO'.up ?_
  unfold m__law_net
  rw [WO_runX (by rfl)]
  unfold g__law_net
  refine WS_step fun K hK => ?_
  simp
  refine hK _ (WS_step fun K hK => ?_)
  simp
  refine take_spec hp (by omega) (by omega) fun x p h3 hp => ?_
  simp
  refine ⟨by omega, ?_⟩
  rw [show ((1 : Int) + x).toNat = 1 + x by omega, rng_map]
  refine for_of _ (fun (ks : List Nat) r => ∃ (ss : List (Nat × List Rule)) (q : D) (t7 t8 t12 : Option D) (t4 : Option D), ss.length + ks.length = 1 + x ∧ OkSs w ss ∧ Pool q ∧ r = [some q, some (.int w), some (.int most), some (.lst true (ss.map eSw)), t4, none, none, t7, t8, none, none, none, t12, none]) _ ⟨[], p, none, none, none, none, by simp, fun _ h => (nomatch h), hp, rfl⟩ ?_ ?_
  · rintro k ks r K ⟨ss, q, t7, t8, t12, t4, hl, hss, hq, rfl⟩ hK
    have hlen : ss.length + (ks.length + 1) = 1 + x := hl
    simp only [sN_eq, List.length_cons, List.length_nil]
    rw [if_pos (by decide), WO_ok]
    refine WT_step fun K1 hK1 => ?_
    simp
    refine take_spec hq (by omega) (by omega) fun y q h4 hq => ?_
    obtain ⟨d, hd⟩ : ∃ d : Nat, (1 + y : Int) = d := ⟨1 + y, by omega⟩
    simp [hd]
    refine hK1 _ (WT_step fun K1 hK1 => ?_)
    simp
    refine WO_xLc (fun acc ds r => ∃ (rs : List Rule) (q : D) (t : Option D), acc = rs.map eRule ∧ rs.length + ds.length ≤ 4 ∧ (∀ r ∈ rs, OkR w d r) ∧ Pool q ∧ r = [some q, some (.int w), some (.int most), some (.lst true (ss.map eSw)), some (.int k), none, none, some (.int d), t8, none, none, none, t, none]) ?_ ?_ ?_
    · simp
      refine take_spec hq (by omega) (by omega) fun y q h5 hq => ?_
      simp
      exact ⟨by omega, by omega, hq⟩
    · rintro acc e ds r ⟨rs, q, t, rfl, hl, hrs, hq, rfl⟩
      simp at hl ⊢
      refine lrule_spec hq h1 (by omega) (by omega) fun r q hr hq => ?_
      simp
      refine ⟨rs ++ [r], by simp, by simp; omega, ?_, hq⟩
      intro r' hr'
      rcases List.mem_append.mp hr' with h | h
      · exact hrs r' h
      · cases List.mem_singleton.mp h; exact hr
    · rintro ys r ⟨rs, q, t, rfl, hl, hrs, hq, rfl⟩
      simp at hl ⊢
      refine hK1 _ (WT_step fun K2 hK2 => ?_)
      have fin : ∀ (xs : List D) (rs : List Rule) (q : D) (b : Bool), frzs xs = rs.map eRule → rs.length ≤ 5 → (∀ r ∈ rs, OkR w d r) → Pool q → K2 [some q, some (.int w), some (.int most), some (.lst true (ss.map eSw)), some (.int k), none, none, some (.int d), some (.lst b xs), none, none, none, none, none] := by
        intro xs rs q b hx hl' hrs hq
        refine hK2 _ ?_
        simp [hx]
        refine ⟨by omega, hK _ ⟨ss ++ [(d, rs)], q, some (.int d), some (.lst false (rs.map eRule)), none, some (.int k), by simp; omega, ?_, hq, by simp [eSw]⟩⟩
        intro s hs
        rcases List.mem_append.mp hs with h | h
        · exact hss s h
        · cases List.mem_singleton.mp h
          exact ⟨by show 1 ≤ d; omega, by show d ≤ 3; omega, hl', hrs⟩
      simp
      refine take_spec hq (by omega) (by omega) fun y q h6 hq => ?_
      simp
      split
      · refine ⟨by omega, take_spec hq (by omega) (by omega) fun z q h7 hq => ?_⟩
        refine ⟨by omega, by omega, fin _ (rs ++ [⟨none, List.replicate w 42, [(z, List.replicate w 42)]⟩]) q true (by simp; rfl) (by simp; omega) ?_ hq⟩
        intro r hr
        rcases List.mem_append.mp hr with h | h
        · exact hrs r h
        · cases List.mem_singleton.mp h
          refine ⟨fun k e => (nomatch e), List.length_replicate .., stars_isP, by simp, fun o ho => ?_⟩
          cases List.mem_singleton.mp ho
          exact ⟨by show z < d; omega, List.length_replicate .., stars_isP⟩
      · exact fin _ rs q true (by simp) (by omega) hrs hq
  · rintro r ⟨ss, q, t7, t8, t12, t4, hl, hss, hq, rfl⟩
    simp at hl ⊢
    refine hK _ (WS_step fun K hK => ?_)
    simp
    refine hK _ (WS_step fun K hK => ?_)
    have hz : ∀ rs : List (Nat × List Rule), ((rs.map eSw).zipIdx.map fun q => D.tup [.int (q.2 : Nat), q.1]) = rs.zipIdx.map fun q => D.tup [.int (q.2 : Nat), eSw q.1] := by
      intro rs
      rw [List.zipIdx_map, List.map_map]; rfl
    simp [hz]
    refine for_of (fun q : (Nat × List Rule) × Nat => D.tup [.int (q.2 : Nat), eSw q.1]) (fun qs r => ∃ (ds : List ((Nat × List Rule) × Nat)) (t9 t10 t13 : Option D), ss.zipIdx = ds ++ qs ∧ r = [some q, some (.int w), some (.int most), some (.lst false (ss.map eSw)), t4, some (.lst true ((ds.flatMap fun s => (List.range s.1.1).map fun d => (s.2, d)).map ePl)), none, t7, t8, t9, t10, none, t12, t13]) _ ⟨[], none, none, none, rfl, rfl⟩ ?_ ?_
    · rintro ⟨s, i⟩ qs r K ⟨ds, t9, t10, t13, e, rfl⟩ hK
      have hs : s ∈ ss := by
        have : (s, i) ∈ ss.zipIdx := by rw [e]; simp
        exact (List.mem_zipIdx this).2.2 ▸ List.getElem_mem _
      have hd := hss s hs
      simp
      refine WO_cLcM (fun d : Nat => .int d) (fun d => ePl (i, d)) (List.range s.1) ?_ (by simp; omega) ?_ ?_
      · simp [rng_map]; omega
      · intro d hd
        simp [ePl]
      · simp
        have hb := sum_le (f := fun a : (Nat × List Rule) × Nat => a.1.1) (k := 3) (xs := ds) fun a ha => (hss _ (mem_zip_ss (by rw [e]; exact List.mem_append_left _ ha))).2.1
        have hdl : ds.length ≤ ss.length := by
          have := congrArg List.length e
          simp at this
          omega
        refine ⟨by omega, hK _ ⟨ds ++ [(s, i)], some (.int i), some (eSw s), t13, by rw [e]; simp, by simp⟩⟩
    · rintro r ⟨ds, t9, t10, t13, e, rfl⟩
      simp at e
      refine hK _ (WS_step fun K hK => ?_)
      simp
      refine hK _ (WS_step fun K hK => ?_)
      have ha : (ds.flatMap fun s => (List.range s.1.1).map fun d => (s.2, d)) = allPl ss := by rw [← e]; rfl
      rw [ha]
      have hal := allPl_len hss
      refine while_inv (fun m r => ∃ (fs : List Pl) (ls : List (Pl × Pl)) (q : D) (u10 u11 : Option D), m = fs.length ∧ (endsL ls ++ fs).Nodup ∧ (∀ p ∈ fs, p ∈ allPl ss) ∧ (∀ l ∈ ls, (l.1 ∈ allPl ss ∧ l.2 ∈ allPl ss) ∧ ltPl l.1 l.2 = true) ∧ ls.length * 2 + fs.length ≤ (allPl ss).length ∧ Pool q ∧ r = [some q, some (.int w), some (.int most), some (.lst false (ss.map eSw)), t4, some (.lst true (fs.map ePl)), some (.lst true (ls.map eLn)), t7, t8, t9, u10, u11, t12, t13]) ?_ 100000 (allPl ss).length _ (by omega) ⟨allPl ss, [], q, t10, none, rfl, by simpa [endsL] using nodup_allPl ss, fun _ h => h, fun _ h => (nomatch h), by simp, hq, rfl⟩
      rintro m r K ⟨fs, ls, q, u10, u11, rfl, hnd, hfs, hls, hlen, hq, rfl⟩ hK'
      simp
      have last : ∀ q, Pool q → WS' (fun x r => ∃ d0, r[0]? = some (some d0) ∧ XF x [some d0]) (sRet (lift [1, 3, 6] (cTup (aCons (cV 1) (aCons (cV 3) (aCons (cV 6) aNil))))) [some q, some (.int w), some (.int most), some (.lst false (ss.map eSw)), t4, some (.lst true (fs.map ePl)), some (.lst true (ls.map eLn)), t7, t8, t9, u10, u11, t12, t13]) (fun r => ∃ d0, r[0]? = some (some d0) ∧ P (D.non, d0)) fun d r => ∃ d0, r[0]? = some (some d0) ∧ P (d, d0) := by
        intro q hq
        simp
        refine h ⟨w, ss, ls⟩ q ⟨h0, h1, by show 1 ≤ ss.length; omega, by show ss.length ≤ 8; omega, fun s hs => ?_, by show ls.length ≤ 24; omega, fun l hl => ?_, fun l hl => (hls l hl).2, (List.nodup_append.mp hnd).1⟩ rfl hss (by show ss.length ≤ most; omega) hq
        · have := hss s hs
          exact ⟨this.1, by omega, by omega, this.2.2.2⟩
        · exact ⟨mem_allPl.mp (hls l hl).1.1, mem_allPl.mp (hls l hl).1.2⟩
      by_cases hf : 1 < (fs.length : Int)
      · simp [hf]
        refine take_spec hq (by omega) (by omega) fun y q h7 hq => ?_
        simp
        split
        · simp [WO_popAt]
          refine take_spec hq (by omega) (by omega) fun z q hz hq => ?_
          have hz' : z < fs.length := by omega
          simp [ixN_pos (i := (z : Int)) (n := fs.length) (by omega) (by omega), er_map]
          refine ⟨by omega, ePl fs[z], ⟨fs[z].1, fs[z].2, by simp [hz'], rfl⟩, ?_⟩
          have e1 := er_len hz'
          refine take_spec hq (by omega) (by omega) fun y q hy hq => ?_
          have hy' : y < (fs.eraseIdx z).length := by omega
          simp [ixN_pos (i := (y : Int)) (n := (fs.eraseIdx z).length) (by omega) (by omega), er_map]
          refine ⟨by omega, ePl (fs.eraseIdx z)[y], ⟨(fs.eraseIdx z)[y].1, (fs.eraseIdx z)[y].2, by simp [hy'], rfl⟩, ?_⟩
          have pm1 := perm_er hz'
          have pm2 := perm_er hy'
          generalize ga : fs[z] = a at pm1 ⊢
          generalize gb : (fs.eraseIdx z)[y] = b at pm2 ⊢
          have pm : (a :: b :: (fs.eraseIdx z).eraseIdx y).Perm fs := (pm2.cons a).trans pm1
          have hnd' : (endsL ls ++ (a :: b :: (fs.eraseIdx z).eraseIdx y)).Nodup := (List.Perm.nodup_iff (List.Perm.append_left _ pm)).mpr hnd
          have hab : a ≠ b := by
            have := (List.nodup_append.mp hnd').2.1
            simp at this
            exact fun z => this.1.1 z
          have e2 := er_len hy'
          have ma : a ∈ allPl ss := hfs a (pm.mem_iff.mp (by simp))
          have mb : b ∈ allPl ss := hfs b (pm.mem_iff.mp (by simp))
          refine (ePl_min hab).mono ?_
          rintro _ rfl
          refine (ePl_max hab).mono ?_
          rintro _ rfl
          simp
          refine ⟨by omega, hK' ((fs.eraseIdx z).eraseIdx y).length _ (by omega) ⟨_, ls ++ [(if ltPl b a = true then b else a, if ltPl b a = true then a else b)], q, some (ePl a), some (ePl b), rfl, ?_, fun p hp => hfs p (pm.mem_iff.mp (by simp [hp])), ?_, by simp; omega, hq, by simp [eLn]⟩⟩
          · rw [endsL_app, List.append_assoc]
            refine (List.Perm.nodup_iff (List.Perm.append_left _ ?_)).mpr hnd'
            split
            · exact List.Perm.swap ..
            · exact List.Perm.refl _
          · intro l hl
            rcases List.mem_append.mp hl with hl | hl
            · exact hls l hl
            · cases List.mem_singleton.mp hl
              rcases ltPl_or hab with ⟨g1, g2⟩ | ⟨g1, g2⟩ <;> simp [g1, g2, ma, mb]
        · exact hK _ (last q hq)
      · simp [hf]
        refine hK _ (last q hq)
end My

namespace My
open PySem L2 DL
variable {X : Xc → DL.Env → Prop}
theorem lplaces_eq {n : Net} (hn : OkN n) : ∃ b, m__law_places [eNet n] = .ok (.lst b ((allPl n.sw).map ePl)) := by
  suffices WO' XF (m__law_places [eNet n]) fun d => ∃ b, d = .lst b ((allPl n.sw).map ePl) by
    obtain ⟨d, h1, b, rfl⟩ := WO'.ok this
    exact ⟨b, h1⟩
  have hs1 := hn.s1
  unfold m__law_places
  rw [WO_runP (by rfl)]
  unfold g__law_places
  refine WS_step fun K hK => ?_
  simp
  refine hK _ (WS_step fun K hK => ?_)
  have hz : ∀ rs : List (Nat × List Rule), ((rs.map eSw).zipIdx.map fun q => D.tup [.int (q.2 : Nat), q.1]) = rs.zipIdx.map fun q => D.tup [.int (q.2 : Nat), eSw q.1] := by
    intro rs
    rw [List.zipIdx_map, List.map_map]; rfl
  simp [hz]
  refine for_of (fun q : (Nat × List Rule) × Nat => D.tup [.int (q.2 : Nat), eSw q.1]) (fun qs r => ∃ (ds : List ((Nat × List Rule) × Nat)) (t9 t10 t13 : Option D), n.sw.zipIdx = ds ++ qs ∧ r = [some (eNet n), some (.lst true ((ds.flatMap fun s => (List.range s.1.1).map fun d => (s.2, d)).map ePl)), t9, t10, t13]) _ ⟨[], none, none, none, rfl, rfl⟩ ?_ ?_
  · rintro ⟨s, i⟩ qs r K ⟨ds, t9, t10, t13, e, rfl⟩ hK
    have hms : ∀ a ∈ n.sw.zipIdx, a.1.1 ≤ 6 := fun a ha => (hn.d _ ((List.mem_zipIdx ha).2.2 ▸ List.getElem_mem _)).2.1
    have hd := hms (s, i) (by rw [e]; simp)
    simp at hd
    simp
    refine WO_cLcM (fun d : Nat => .int d) (fun d => ePl (i, d)) (List.range s.1) ?_ (by simp; omega) ?_ ?_
    · simp [rng_map]; omega
    · intro d hd
      simp [ePl]
    · simp
      have hb : ∀ xs : List ((Nat × List Rule) × Nat), (∀ a ∈ xs, a.1.1 ≤ 6) → (xs.map fun a => a.1.1).sum ≤ xs.length * 6 := by
        intro xs
        induction xs with
        | nil => intro _; simp
        | cons y ys ih =>
          intro h
          have h1 := h y (List.mem_cons_self ..)
          have h2 := ih fun z hz => h z (List.mem_cons_of_mem _ hz)
          rw [List.map_cons, List.sum_cons, List.length_cons, Nat.succ_mul]
          omega
      have hb := hb ds fun a ha => hms a (by rw [e]; exact List.mem_append_left _ ha)
      have hdl : ds.length ≤ n.sw.length := by
        have := congrArg List.length e
        simp at this
        omega
      refine ⟨by omega, hK _ ⟨ds ++ [(s, i)], some (.int i), some (eSw s), t13, by rw [e]; simp, by simp⟩⟩
  · rintro r ⟨ds, t9, t10, t13, e, rfl⟩
    simp at e
    refine hK _ ?_
    simp [allPl, e]
/-! a net can be shown -/
theorem bulk_cons {x : D} {xs : List D} : bulkDs (x :: xs) = bulkD x + 1 + bulkDs xs := rfl
theorem bulk_nil : bulkDs [] = 0 := rfl
theorem bulk_lst {b : Bool} {xs : List D} : bulkD (.lst b xs) = bulkDs xs := rfl
theorem bulk_tup {xs : List D} : bulkD (.tup xs) = bulkDs xs := rfl
theorem bulk_int {i : Int} : bulkD (.int i) = 0 := rfl
theorem bulk_str {cs : List Nat} : bulkD (.str cs) = cs.length := rfl
theorem bulk_eO {o : Option Nat} : bulkD (eO o) = 0 := by cases o <;> rfl
theorem bulk_rule {w d : Nat} {r : Rule} (h : OkR w d r) (hw : w ≤ 16) : bulkD (eRule r) ≤ 76 := by
  have h1 := h.pl
  have h2 : bulkDs (r.outs.map eOut) ≤ 3 * (18 + 1) := bulkDs_le (by simpa using h.ol) fun x hx => by
    obtain ⟨o, ho, rfl⟩ := List.mem_map.mp hx
    have := (h.od o ho).2.1
    simp only [eOut, bulk_tup, bulk_cons, bulk_nil, bulk_int, bulk_str]
    omega
  simp only [eRule, bulk_tup, bulk_cons, bulk_nil, bulk_eO, bulk_str, bulk_lst]
  omega
theorem bulk_net {n : Net} (hn : OkN n) : bulkD (eNet n) ≤ 20000 := by
  have h1 : bulkDs (n.sw.map eSw) ≤ 8 * (1542 + 1) := bulkDs_le (by simpa using hn.s1) fun x hx => by
    obtain ⟨s, hs, rfl⟩ := List.mem_map.mp hx
    have hd := hn.d s hs
    have h2 : bulkDs (s.2.map eRule) ≤ 20 * (76 + 1) := bulkDs_le (by simpa using hd.2.2.1) fun y hy => by
      obtain ⟨r, hr, rfl⟩ := List.mem_map.mp hy
      exact bulk_rule (hd.2.2.2 r hr) hn.w1
    simp only [eSw, bulk_tup, bulk_cons, bulk_nil, bulk_int, bulk_lst]
    omega
  have h2 : bulkDs (n.ln.map eLn) ≤ 24 * (6 + 1) := bulkDs_le (by simpa using hn.l1) fun x hx => by
    obtain ⟨l, hl, rfl⟩ := List.mem_map.mp hx
    simp only [eLn, ePl, bulk_tup, bulk_cons, bulk_nil, bulk_int]
    omega
  simp only [eNet, bulk_tup, bulk_cons, bulk_nil, bulk_int, bulk_lst]
  omega
theorem short_cons {x : D} {xs : List D} : shortDs (x :: xs) = (shortD x && shortDs xs) := rfl
theorem short_nil : shortDs [] = true := rfl
theorem short_lst {b : Bool} {xs : List D} : shortD (.lst b xs) = shortDs xs := rfl
theorem short_tup {xs : List D} : shortD (.tup xs) = shortDs xs := rfl
theorem short_nat {k : Nat} (h : k ≤ 1000) : shortD (.int k) = true := by
  show decide (((k : Int)).natAbs < 10 ^ 40) = true
  simp
  exact Nat.lt_of_le_of_lt h (by decide)
theorem short_isP {cs : List Nat} (h : IsP cs) : shortD (.str cs) = true := by
  show (cs.all fun c => decide (c < 1114112)) = true
  rw [List.all_eq_true]
  intro c hc
  have := h c hc
  simp; omega
theorem short_map {α : Type} {f : α → D} {xs : List α} (h : ∀ x ∈ xs, shortD (f x) = true) : shortDs (xs.map f) = true := by
  rw [shortDs_all, List.all_eq_true]
  intro y hy
  obtain ⟨x, hx, rfl⟩ := List.mem_map.mp hy
  exact h x hx
theorem short_pl {n : Net} (hn : OkN n) {p : Pl} (hp : OkPl n p) : shortD (ePl p) = true := by
  have h1 := hn.s1
  have h2 := hp.1
  have h3 := hp.2
  have h4 := hn.dle (k := p.1)
  simp only [ePl, short_tup, short_cons, short_nil, Bool.and_true, Bool.and_eq_true]
  exact ⟨short_nat (by omega), short_nat (by omega)⟩
theorem short_net {n : Net} (hn : OkN n) : shortD (eNet n) = true := by
  have hw := hn.w1
  simp only [eNet, short_tup, short_cons, short_nil, short_lst, Bool.and_true, Bool.and_eq_true]
  refine ⟨short_nat (by omega), short_map fun s hs => ?_, short_map fun l hl => ?_⟩
  · have hd := hn.d s hs
    simp only [eSw, short_tup, short_cons, short_nil, short_lst, Bool.and_true, Bool.and_eq_true]
    refine ⟨short_nat (by omega), short_map fun r hr => ?_⟩
    have hr := hd.2.2.2 r hr
    simp only [eRule, short_tup, short_cons, short_nil, short_lst, Bool.and_true, Bool.and_eq_true]
    refine ⟨?_, short_isP hr.pp, short_map fun o ho => ?_⟩
    · cases e : r.door with
      | none => rfl
      | some k =>
        have := hr.door k e
        exact short_nat (by omega)
    · have := hr.od o ho
      simp only [eOut, short_tup, short_cons, short_nil, Bool.and_true, Bool.and_eq_true]
      exact ⟨short_nat (by omega), short_isP this.2.2⟩
  · have := hn.lp l hl
    simp only [eLn, short_tup, short_cons, short_nil, Bool.and_true, Bool.and_eq_true]
    exact ⟨short_pl hn this.1, short_pl hn this.2⟩
theorem repr_net {n : Net} (hn : OkN n) : gRepr (eNet n) = .ok (.str (reprL (eNet n))) := by
  refine gRepr_ok ?_
  simp only [reprOk, plain_eNet, short_net hn, bulk_net hn, dle_eNet (n := 53), decide_true, Bool.and_true]
theorem repr_eO {o : Option Nat} (h : ∀ k, o = some k → k ≤ 1000) : gRepr (eO o) = .ok (.str (reprL (eO o))) := by
  refine gRepr_ok ?_
  cases o with
  | none => rfl
  | some k =>
    have := short_nat (h k rfl)
    simp only [reprOk, plain_eO, dle_eO, bulk_eO, Bool.and_true, Bool.true_and]
    simp only [eO, this]
    rfl
end My

namespace My
open PySem L2 DL
theorem cells {ns : List Int} (m : Int) (hm : 1 ≤ m) (hm' : m ≤ 100) : ∀ x : Int, x = (if 1 < if m < (ns.length : Int) then m else (ns.length : Int) then if m < (ns.length : Int) then m else (ns.length : Int) else 1) → 1 ≤ x ∧ x ≤ 100 := by
  intro x hx
  subst hx
  split <;> split at * <;> omega
theorem eqDs_self_map {α : Type} {f : α → D} (h : ∀ a, eqD (f a) (f a) = true) : ∀ xs : List α, eqDs (xs.map f) (xs.map f) = true
  | [] => rfl
  | x :: xs => by
    show (eqD (f x) (f x) && eqDs (xs.map f) (xs.map f)) = true
    rw [h, eqDs_self_map h xs]; rfl
theorem eqD_lst {b c : Bool} {xs ys : List D} : eqD (.lst b xs) (.lst c ys) = eqDs xs ys := rfl
theorem atI_last {α : Type} {xs : List α} : atI xs (-1) = xs.getLast? := by
  unfold atI ixN
  rw [if_neg (by decide)]
  cases xs with
  | nil => simp
  | cons x xs =>
    rw [if_pos (by simp; omega), List.getLast?_eq_getElem?]
    show (x :: xs)[(-1 + ((x :: xs).length : Int)).toNat]? = _
    rw [show (-1 + ((x :: xs).length : Int)).toNat = (x :: xs).length - 1 by simp; omega]
end My

namespace My
open PySem L2 DL
variable {X : Xc → DL.Env → Prop}
theorem allPl_le {n : Net} (hn : OkN n) : (allPl n.sw).length ≤ 48 := by
  have hs1 := hn.s1
  have hms : ∀ a ∈ n.sw.zipIdx, a.1.1 ≤ 6 := fun a ha => (hn.d _ ((List.mem_zipIdx ha).2.2 ▸ List.getElem_mem _)).2.1
  unfold allPl
  rw [List.length_flatMap]
  have := sum_le (f := fun q : (Nat × List Rule) × Nat => ((List.range q.1.1).map fun d => (q.2, d)).length) (k := 6) (xs := n.sw.zipIdx) fun q hq => by simpa using hms q hq
  simp at this ⊢
  omega
theorem exn_of {α : Type} {o : Out α} {x : Xc} {r : DL.Env} (h : WO' (fun y s => y = x ∧ s = r) o fun _ => False) : o = .exn x r := by
  cases o with
  | ok a => exact h.elim
  | exn y s => obtain ⟨rfl, rfl⟩ := h; rfl
  | bad => exact h.elim
theorem look_no {n : Net} {d : D} (hn : OkN n) (hd : frz d = d) (h : ∀ xs, d = .tup xs → ∀ x ∈ xs, isiOk x = true) (hi : isiOk d = true) (hp : placeD (n.sw.map (·.1)) d = false) : m_look_at_place [eNet n, d] = .exn ⟨"NoPlace", [], []⟩ [] := by
  have hs := hn.s1
  have e := place_eq (ss := n.sw) (d := d) (by rw [hd]; exact h) (by rw [hd]; exact hi) (by omega)
  rw [hd, hp] at e
  have : WO' (fun x r => x = ⟨"NoPlace", [], []⟩ ∧ r = []) (m_look_at_place [eNet n, d]) fun _ => False := by
    unfold m_look_at_place
    rw [WO_runP (by rfl)]
    unfold g_look_at_place
    simp [e, hd]
  exact exn_of this
theorem other_mem {p q : Pl} : ∀ {ls : List (Pl × Pl)}, otherE ls p = some q → ∃ l ∈ ls, (p = l.1 ∧ q = l.2) ∨ (p = l.2 ∧ q = l.1)
  | [], h => nomatch h
  | l :: ls, h => by
    unfold otherE at h
    split at h
    · rename_i e; cases h; exact ⟨l, by simp, .inl ⟨e, rfl⟩⟩
    · split at h
      · rename_i e; cases h; exact ⟨l, by simp, .inr ⟨e, rfl⟩⟩
      · obtain ⟨l', m, z⟩ := other_mem h
        exact ⟨l', List.mem_cons_of_mem _ m, z⟩
theorem other_back {p q : Pl} : ∀ {ls : List (Pl × Pl)}, (endsL ls).Nodup → otherE ls p = some q → otherE ls q = some p
  | [], _, h => nomatch h
  | l :: ls, nd, h => by
    have nd' : (l.1 :: l.2 :: endsL ls).Nodup := nd
    rw [List.nodup_cons, List.nodup_cons] at nd'
    obtain ⟨n1, n2, n3⟩ := nd'
    have ne : l.1 ≠ l.2 := fun z => n1 (by rw [z]; simp)
    unfold otherE at h ⊢
    split at h
    · rename_i e; cases h
      rw [if_neg (Ne.symm ne), if_pos rfl, e]
    · split at h
      · rename_i e; cases h
        rw [if_pos rfl, e]
      · obtain ⟨l', m, z⟩ := other_mem h
        have hq : q ∈ endsL ls := List.mem_flatMap.mpr ⟨l', m, by rcases z with ⟨_, z⟩ | ⟨_, z⟩ <;> simp [z]⟩
        rw [if_neg fun z => n1 (by rw [← z]; simp [hq]), if_neg fun z => n2 (by rw [← z]; exact hq)]
        exact other_back n3 h
theorem other_ok {n : Net} (hn : OkN n) {p q : Pl} (h : otherE n.ln p = some q) : OkPl n q := by
  obtain ⟨l, m, z⟩ := other_mem h
  have := hn.lp l m
  rcases z with ⟨_, rfl⟩ | ⟨_, rfl⟩
  · exact this.2
  · exact this.1
end My

namespace My
open PySem L2 DL
variable {X : Xc → DL.Env → Prop}
/-- no place of the net -/
def noPl (n : Net) (d : D) : Prop := frz d = d ∧ (∀ xs, d = .tup xs → ∀ x ∈ xs, isiOk x = true) ∧ isiOk d = true ∧ placeD (n.sw.map (·.1)) d = false
theorem lookc_noP {n : Net} {d h : D} (hn : OkN n) (hd : noPl n d) : m_look_at_come [eNet n, d, h] = .exn ⟨"NoPlace", [], []⟩ [] := by
  obtain ⟨h1, h2, h3, h4⟩ := hd
  have : WO' (fun x r => x = ⟨"NoPlace", [], []⟩ ∧ r = []) (m_look_at_come [eNet n, d, h]) fun _ => False := by
    unfold m_look_at_come
    rw [WO_runP (by rfl)]
    unfold g_look_at_come
    simp [look_no hn h1 h2 h3 h4, h1]
  exact exn_of this
/-- no head of the width -/
def noHd (w : Nat) (d : D) : Prop := frz d = d ∧ isiOk d = true ∧ shortT d ∧ isOfB d w [48, 49] = false
theorem lookc_noH {n : Net} {p : Pl} {h : D} (hn : OkN n) (hp : OkPl n p) (hd : noHd n.w h) : m_look_at_come [eNet n, ePl p, h] = .exn ⟨"NoHead", [], []⟩ [] := by
  obtain ⟨h1, h2, h3, h4⟩ := hd
  have : WO' (fun x r => x = ⟨"NoHead", [], []⟩ ∧ r = []) (m_look_at_come [eNet n, ePl p, h]) fun _ => False := by
    unfold m_look_at_come
    rw [WO_runP (by rfl)]
    unfold g_look_at_come
    simp [look_ok hn hp, h1, head_eq (by rw [h1]; exact h2) h3 h1, h4]
  exact exn_of this
theorem rulemet_x {n : Net} {p h : D} {c : Str} (hp : frz p = p) (hh : frz h = h) (e : m_look_at_come [eNet n, p, h] = .exn ⟨c, [], []⟩ []) : m_rule_met [eNet n, p, h] = .exn ⟨c, [], []⟩ [] := by
  have : WO' (fun x r => x = ⟨c, [], []⟩ ∧ r = []) (m_rule_met [eNet n, p, h]) fun _ => False := by
    unfold m_rule_met
    rw [WO_runP (by rfl)]
    unfold g_rule_met
    simp [e, hp, hh]
  exact exn_of this
theorem comes_x {n : Net} {p h : D} {c : Str} (hp : frz p = p) (hh : frz h = h) (e : m_look_at_come [eNet n, p, h] = .exn ⟨c, [], []⟩ []) : m_comes [eNet n, p, h] = .exn ⟨c, [], []⟩ [] := by
  have : WO' (fun x r => x = ⟨c, [], []⟩ ∧ r = []) (m_comes [eNet n, p, h]) fun _ => False := by
    unfold m_comes
    rw [WO_runP (by rfl)]
    unfold g_comes
    simp [e, hp, hh]
  exact exn_of this
theorem kind_place {r : DL.Env} : m__law_kind (.exn ⟨"NoPlace", [], []⟩ r) = .ok (.str [112, 108, 97, 99, 101]) := by kernel_rfl
theorem kind_head {r : DL.Env} : m__law_kind (.exn ⟨"NoHead", [], []⟩ r) = .ok (.str [104, 101, 97, 100]) := by kernel_rfl
theorem both_x {n : Net} {p h : D} {c : Str} {t : List Nat} (hp : frz p = p) (hh : frz h = h) (e : m_look_at_come [eNet n, p, h] = .exn ⟨c, [], []⟩ []) (k : ∀ r, m__law_kind (.exn ⟨c, [], []⟩ r) = .ok (.str t)) : m__law_both [eNet n, p, h] = .ok (.lst false [.str t, .str t]) := by
  refine WO.eq ?_
  unfold m__law_both
  rw [WO_runP (by rfl)]
  unfold g__law_both
  with_reducible refine WS_step fun K hK => ?_
  simp [rulemet_x hp hh e, hp, hh, k]
  refine hK _ ?_
  clear hK
  with_reducible refine WS_step fun K hK => ?_
  simp [comes_x hp hh e, hp, hh, k]
  refine hK _ ?_
  clear hK
  simp
theorem both_noP {n : Net} {d h : D} (hn : OkN n) (hd : noPl n d) (hh : frz h = h) : m__law_both [eNet n, d, h] = .ok (.lst false [.str [112, 108, 97, 99, 101], .str [112, 108, 97, 99, 101]]) := both_x hd.1 hh (lookc_noP hn hd) fun _ => kind_place
theorem both_noH {n : Net} {p : Pl} {h : D} (hn : OkN n) (hp : OkPl n p) (hd : noHd n.w h) : m__law_both [eNet n, ePl p, h] = .ok (.lst false [.str [104, 101, 97, 100], .str [104, 101, 97, 100]]) := both_x frz_ePl hd.1 (lookc_noH hn hp hd) fun _ => kind_head

theorem noPl_two {n : Net} {x y : D} (hx : frz x = x) (hy : frz y = y) (ix : isiOk x = true) (iy : isiOk y = true) (hp : placeD (n.sw.map (·.1)) (.tup [x, y]) = false) : noPl n (.tup [x, y]) :=
  ⟨by simp [hx, hy], fun xs e z hz => by
    cases e
    simp at hz
    rcases hz with rfl | rfl
    · exact ix
    · exact iy, rfl, hp⟩
theorem eqD_eCome {c : Bool × Pl × List Nat} : eqD (eCome c) (eCome c) = true := by
  simp [eCome, eqD_tup, eqDs_cons, eqD, eqDs]
theorem last_pl {ss : List (Nat × List Rule)} (h0 : ss ≠ []) (h1 : ∀ s ∈ ss, 1 ≤ s.1) : (allPl ss).getLast? = some (ss.length - 1, (ss.getD (ss.length - 1) (0, [])).1 - 1) := by
  rcases List.eq_nil_or_concat ss with h | ⟨qs, s, rfl⟩
  · exact (h0 h).elim
  · have hs := h1 s (by simp)
    unfold allPl
    rw [List.concat_eq_append, List.zipIdx_append, List.flatMap_append, List.getLast?_append]
    have : ([s].zipIdx qs.length).flatMap (fun s => (List.range s.1.1).map fun d => (s.2, d)) = (List.range s.1).map fun d => (qs.length, d) := by simp
    simp only [Nat.zero_add]
    rw [this, List.getLast?_map, List.getLast?_range]
    rw [if_neg (by omega)]
    simp
/-- the things that are no places -/
def noWhere (a b : Nat) : List D := [.non, .int 0, .tup [], .lst false [.int 0, .int 0], .tup [.int 0, .int 0, .int 0], .tup [.int (-1), .int 0], .tup [.int 0, .int 9], .tup [.bl true, .int 0], .tup [.int (a + 1), .int 0], .tup [.int a, .int (b + 1)], .tup [.int 0, .bl true], .tup [.int 0, .bl false], .tup [.lst false [.int 0], .int 0], .tup [.int 0, .lst false [.int 0]], .tup [.int 0, .dK false [] []]]
theorem noWhere_ok {n : Net} (hN : OkN n) : ∀ d ∈ noWhere (n.sw.length - 1) ((n.sw.getD (n.sw.length - 1) (0, [])).1 - 1), noPl n d := by
  have hs0 := hN.s0
  have h00 : (n.sw.map (·.1)).getD 0 0 ≤ 6 := by
    have := hN.dle (k := 0)
    rw [doors_map]; exact this
  have e3 : (n.sw.map (·.1)).getD (n.sw.length - 1) 0 = ((n.sw.getD (n.sw.length - 1) (0, [])).1 - 1) + 1 := by
    have : 1 ≤ doorsAt n (n.sw.length - 1) := by
      unfold doorsAt
      have hk : n.sw.length - 1 < n.sw.length := by omega
      simp [hk]
      exact (hN.d _ (List.getElem_mem hk)).1
    rw [doors_map]
    unfold doorsAt at *
    omega
  generalize (n.sw.getD (n.sw.length - 1) (0, [])).1 - 1 = b at e3
  intro d hd
  unfold noWhere at hd
  simp only [List.mem_cons, List.not_mem_nil, or_false] at hd
  rcases hd with rfl | rfl | rfl | rfl | rfl | rfl | rfl | rfl | rfl | rfl | rfl | rfl | rfl | rfl | rfl
  · exact ⟨rfl, fun _ z => (nomatch z), rfl, rfl⟩
  · exact ⟨rfl, fun _ z => (nomatch z), rfl, rfl⟩
  · exact ⟨rfl, fun _ z => by cases z; simp, rfl, rfl⟩
  · exact ⟨rfl, fun _ z => (nomatch z), rfl, rfl⟩
  · exact ⟨rfl, fun _ z => by cases z; simp [isiOk], rfl, rfl⟩
  · exact noPl_two rfl rfl rfl rfl (by simp [placeD])
  · refine noPl_two rfl rfl rfl rfl ?_
    simp only [placeD]
    rw [show (0 : Int).toNat = 0 from rfl]
    generalize (n.sw.map (·.1)).getD 0 0 = g at h00
    rw [show decide ((9 : Int) < (g : Nat)) = false from decide_eq_false (by omega), Bool.and_false]
  · exact noPl_two rfl rfl rfl rfl rfl
  · refine noPl_two rfl rfl rfl rfl ?_
    simp only [placeD]
    rw [show decide (((n.sw.length - 1 : Nat) : Int) + 1 < ((n.sw.map (·.1)).length : Nat)) = false from decide_eq_false (by simp; omega)]
    simp
  · refine noPl_two rfl rfl rfl rfl ?_
    simp only [placeD]
    rw [show (((n.sw.length - 1 : Nat) : Nat) : Int).toNat = n.sw.length - 1 by simp, e3]
    simp
  · exact noPl_two rfl rfl rfl rfl rfl
  · exact noPl_two rfl rfl rfl rfl rfl
  · exact noPl_two rfl rfl rfl rfl rfl
  · exact noPl_two rfl rfl rfl rfl rfl
  · exact noPl_two rfl rfl rfl rfl rfl
def noWhereO (a b : Nat) : List D := [.non, .int 0, .tup [], .lst true [.int 0, .int 0], .tup [.int 0, .int 0, .int 0], .tup [.int (-1), .int 0], .tup [.int 0, .int 9], .tup [.bl true, .int 0], .tup [.int (a + 1), .int 0], .tup [.int a, .int (b + 1)], .tup [.int 0, .bl true], .tup [.int 0, .bl false], .tup [.lst true [.int 0], .int 0], .tup [.int 0, .lst true [.int 0]], .tup [.int 0, .dK true [] []]]
@[simp] theorem frz_noWhere {a b : Nat} : frzs (noWhereO a b) = noWhere a b := by simp [noWhereO, noWhere]
@[simp] theorem frz_noWhere2 {a b : Nat} : frzs (noWhere a b) = noWhere a b := by simp [noWhere]
/-- the things that are no heads -/
def noHeads (w : Nat) (h : List Nat) : List D := [.non, .int 0, .str [], .str (h ++ [48]), .str (h.drop 1), .str (List.replicate w 42), .str (List.replicate w 50), .lst false (h.map fun c => .str [c]), .bl true]
def noHeadsO (w : Nat) (h : List Nat) : List D := [.non, .int 0, .str [], .str (h ++ [48]), .str (h.drop 1), .str (List.replicate w 42), .str (List.replicate w 50), .lst true (h.map fun c => .str [c]), .bl true]
@[simp] theorem frz_noHeads {w : Nat} {h : List Nat} : frzs (noHeadsO w h) = noHeads w h := by simp [noHeadsO, noHeads]
theorem noHeads_ok {w : Nat} {h : List Nat} (h1 : 1 ≤ w) (h2 : w ≤ 16) (hl : h.length = w) : ∀ d ∈ noHeads w h, noHd w d := by
  have hr : ∀ c : Nat, c ≠ 48 → c ≠ 49 → isOfB (.str (List.replicate w c)) w [48, 49] = false := fun c n1 n2 => by
    simp only [isOfB]
    have : (List.replicate w c).all (fun c => decide (c ∈ [48, 49])) = false := by
      rw [List.all_eq_false]
      exact ⟨c, by simp; omega, by simp [n1, n2]⟩
    rw [this, Bool.and_false]
  intro d hd
  unfold noHeads at hd
  simp only [List.mem_cons, List.not_mem_nil, or_false] at hd
  rcases hd with rfl | rfl | rfl | rfl | rfl | rfl | rfl | rfl | rfl
  · exact ⟨rfl, rfl, fun _ e => (nomatch e), rfl⟩
  · exact ⟨rfl, rfl, fun _ e => (nomatch e), rfl⟩
  · exact ⟨rfl, rfl, fun _ e => by cases e; simp, by simp [isOfB]; omega⟩
  · exact ⟨rfl, rfl, fun _ e => by cases e; simp; omega, by simp [isOfB]; omega⟩
  · exact ⟨rfl, rfl, fun _ e => by cases e; simp; omega, by simp [isOfB]; omega⟩
  · exact ⟨rfl, rfl, fun _ e => by cases e; simp; omega, hr 42 (by decide) (by decide)⟩
  · exact ⟨rfl, rfl, fun _ e => by cases e; simp; omega, hr 50 (by decide) (by decide)⟩
  · exact ⟨by simp, rfl, fun _ e => (nomatch e), rfl⟩
  · exact ⟨rfl, rfl, fun _ e => (nomatch e), rfl⟩
set_option maxHeartbeats 4000000 in
theorem law_holds (ns : List Int) (hn : ns.length ≤ 63) : m_law [.scr ns] = .ok (.bl true) := by
  refine WO.eq ?_
  unfold m_law
  rw [WO_runP (by rfl)]
  unfold g_law
  refine WS_step fun K0 hK0 => ?_
  simp
  have hj := cells (ns := ns) 20 (by omega) (by omega) _ rfl
  generalize hx : (if 1 < if 20 < (ns.length : Int) then 20 else (ns.length : Int) then if 20 < (ns.length : Int) then 20 else (ns.length : Int) else 1) = x at hj ⊢
  refine ⟨by omega, ?_⟩
  rw [rng_map]
  refine for_of _ (fun (ks : List Nat) r => (∀ k ∈ ks, k ≤ 100) ∧ ∃ o1 o2 o3 o4 o5 o6 o7 o8 o9 o10 o11, r = [some (.scr ns), o1, o2, o3, o4, o5, o6, o7, o8, o9, o10, o11]) _ ?_ ?_ ?_
  · refine ⟨fun k hk => ?_, _, _, _, _, _, _, _, _, _, _, _, rfl⟩
    simp at hk
    omega
  · rintro k ks r K ⟨hk, o1, o2, o3, o4, o5, o6, o7, o8, o9, o10, o11, rfl⟩ hK
    have hk0 := hk k (List.mem_cons_self ..)
    simp only [sN_eq, List.length_cons, List.length_nil]
    rw [if_pos (by decide), WO_ok]
    with_reducible refine WT_step fun K1 hK1 => ?_
    simp
    refine pool_spec (by omega) (by omega) fun p hp => hK1 _ ?_
    clear hK1
    with_reducible refine WT_step fun K1 hK1 => ?_
    simp
    refine take_spec hp (by omega) (by omega) fun x p h3 hp => ?_
    obtain ⟨w, hw⟩ : ∃ w : Nat, (1 + x : Int) = w := ⟨1 + x, by omega⟩
    simp [hw]
    refine hK1 _ ?_
    clear hK1
    with_reducible refine WT_step fun K1 hK1 => ?_
    simp
    refine lnet_spec (most := 4) hp (by omega) (by omega) (by omega) (by omega) fun n p hN hnw hss hsl hp => ?_
    simp
    refine hK1 _ ?_
    clear hK1
    with_reducible refine WT_step fun K1 hK1 => ?_
    obtain ⟨b, eb⟩ := lplaces_eq hN
    simp [eb]
    refine hK1 _ ?_
    clear hK1
    with_reducible refine WT_step fun K1 hK1 => ?_
    have hle := allPl_le hN
    have hs0 := hN.s0
    have hla := last_pl (ss := n.sw) (fun z => by rw [z] at hs0; simp at hs0) (fun s hs => (hN.d s hs).1)
    have hpos : 0 < (allPl n.sw).length := by
      cases h : allPl n.sw with
      | nil => rw [h] at hla; cases hla
      | cons _ _ => simp
    simp
    refine take_spec hp (by omega) (by omega) fun y p h4 hp => ?_
    simp [atI_k (xs := (allPl n.sw).map ePl) (k := y) (by simpa using h4)]
    generalize hq : (allPl n.sw)[y] = q
    have hqp : OkPl n q := mem_allPl.mp (hq ▸ List.getElem_mem _)
    refine hK1 _ ?_
    clear hK1
    with_reducible refine WT_step fun K1 hK1 => ?_
    simp
    refine text_spec hp (by omega) (by omega) (by decide) (by decide) fun hd p hl hs hp => ?_
    have hl' : hd.length = n.w := by omega
    have hh : IsH hd := fun c m => by have := hs c m; simpa using this
    simp
    refine hK1 _ ?_
    clear hK1
    with_reducible refine WT_step fun K1 hK1 => ?_
    generalize hls : (n.sw.length - 1, (n.sw.getD (n.sw.length - 1) (0, [])).1 - 1) = ls at hla
    simp [atI_last, hla]
    refine hK1 _ ?_
    clear hK1
    with_reducible refine WT_step fun K1 hK1 => ?_
    simp
    refine hK1 _ ?_
    clear hK1
    with_reducible refine WT_step fun K1 hK1 => ?_
    simp
    refine hK1 _ ?_
    clear hK1
    with_reducible refine WT_step fun K1 hK1 => ?_
    simp
    rw [cut_one]
    refine ⟨by omega, by omega, by omega, by omega, hK1 _ ?_⟩
    clear hK1
    have e1 : ls.1 = n.sw.length - 1 := by rw [← hls]
    have e2 : ls.2 = (n.sw.getD (n.sw.length - 1) (0, [])).1 - 1 := by rw [← hls]
    have hP : ∀ d ∈ noWhere ls.1 ls.2, noPl n d := by rw [e2, e1]; exact noWhere_ok hN
    have hH := noHeads_ok (w := n.w) (h := hd) hN.w0 hN.w1 hl'
    have e9 : (w : Nat) = n.w := by omega
    show WT' _ (sSeq _ _ [some (.scr ns), some (.int k), some p, some (.int w), some (eNet n), some (.lst false ((allPl n.sw).map ePl)), some (ePl q), some (.str hd), some (ePl ls), some (.lst true (noWhere ls.1 ls.2)), some (.lst true (noHeadsO w hd)), o11]) _ _ _ _
    with_reducible refine WT_step fun K1 hK1 => ?_
    simp
    refine for_of (fun d : D => d) (fun (ds : List D) r => (∀ d ∈ ds, noPl n d) ∧ ∃ (u : Option D), r = [some (.scr ns), some (.int k), some p, some (.int w), some (eNet n), some (.lst false ((allPl n.sw).map ePl)), some (ePl q), some (.str hd), some (ePl ls), some (.lst false (noWhere ls.1 ls.2)), some (.lst true (noHeadsO w hd)), u]) (noWhere ls.1 ls.2) ⟨hP, _, rfl⟩ ?_ ?_
    · rintro d ds r K2 ⟨hds, u, rfl⟩ hK2
      have hd0 := hds d (List.mem_cons_self ..)
      simp
      obtain ⟨a, ea, ma⟩ := WO_at (xs := noHeads w hd) (i := (k : Int) % 9) (by omega) (by simp [noHeads]; omega)
      have ha := hH a (by rw [← e9]; exact ma)
      simp [hd0.1, both_noP (h := .str hd) hN hd0 rfl, ea, both_noP hN hd0 ha.1]
      exact hK2 _ ⟨fun x hx => hds x (List.mem_cons_of_mem _ hx), _, rfl⟩
    rintro r ⟨_, u, rfl⟩
    refine hK1 _ ?_
    clear hK1
    with_reducible refine WT_step fun K1 hK1 => ?_
    simp
    refine for_of (fun d : D => d) (fun (ds : List D) r => (∀ d ∈ ds, noHd n.w d) ∧ ∃ (u : Option D), r = [some (.scr ns), some (.int k), some p, some (.int w), some (eNet n), some (.lst false ((allPl n.sw).map ePl)), some (ePl q), some (.str hd), some (ePl ls), some (.lst false (noWhere ls.1 ls.2)), some (.lst false (noHeads w hd)), u]) (noHeads w hd) ⟨by rw [e9]; exact hH, _, rfl⟩ ?_ ?_
    · rintro d ds r K2 ⟨hds, u, rfl⟩ hK2
      have hd0 := hds d (List.mem_cons_self ..)
      simp [both_noH hN hqp hd0, hd0.1]
      exact hK2 _ ⟨fun x hx => hds x (List.mem_cons_of_mem _ hx), _, rfl⟩
    rintro r ⟨_, u, rfl⟩
    refine hK1 _ ?_
    obtain ⟨b2, eb2⟩ := lcomes_eq (h := hd) hN hqp hl'
    simp [eb2, comes_eq hN hqp hl' hh, eqD_lst, eqDs_self_map (f := eCome) fun c => eqD_eCome]
    exact hK _ ⟨fun k m => hk k (List.mem_cons_of_mem _ m), _, _, _, _, _, _, _, _, _, _, _, rfl⟩
  · rintro r ⟨_, o1, o2, o3, o4, o5, o6, o7, o8, o9, o10, o11, rfl⟩
    refine hK0 _ ?_
    simp
end My

namespace My
open PySem L2 DL
set_option maxHeartbeats 4000000 in
theorem all_mk {l : PySem.W.OpenLaw} (hlaw : ∀ ns : List Int, ns.length ≤ 63 → m_law [.scr ns] = .ok (.bl true)) {w : World} {K : PySem.W.Frag} {h : Heap} {mg : Str → Option Value} {fa : Addr} (X : K.In h) (G : h.Ns mainGlobals mg) (hfa : mg "law" = some (.ref fa))
    {a_NoPlace : Addr} (ag_NoPlace : PySem.W.nsIn K mainGlobals "NoPlace" = some (some (.ref a_NoPlace)))
    {a_NoHead : Addr} (ag_NoHead : PySem.W.nsIn K mainGlobals "NoHead" = some (some (.ref a_NoHead)))
    {a_HeadError : Addr} (ag_HeadError : PySem.W.nsIn K mainGlobals "HeadError" = some (some (.ref a_HeadError)))
    {a_NoNet : Addr} (ag_NoNet : PySem.W.nsIn K mainGlobals "NoNet" = some (some (.ref a_NoNet)))
    {a_NoRule : Addr} (ag_NoRule : PySem.W.nsIn K mainGlobals "NoRule" = some (some (.ref a_NoRule)))
    {a_NoWay : Addr} (ag_NoWay : PySem.W.nsIn K mainGlobals "NoWay" = some (some (.ref a_NoWay)))
    {f__law_cell_at : Addr} {od__law_cell_at an__law_cell_at : Option Addr} {sl__law_cell_at : Array (Option Value)} {oc__law_cell_at kV__law_cell_at dc__law_cell_at pm__law_cell_at cd__law_cell_at ct__law_cell_at : Value}
    (a__law_cell_at : PySem.W.nsIn K mainGlobals "_law_cell_at" = some (some (.ref f__law_cell_at))) (l__law_cell_at : K.lookup f__law_cell_at = some ⟨oc__law_cell_at, od__law_cell_at, .func (PySem.W.fnOf "_law_cell_at" "_law_cell_at" (defArgs s__law_cell_at) (defBody s__law_cell_at) (defScope s__law_cell_at) .none kV__law_cell_at dc__law_cell_at pm__law_cell_at an__law_cell_at cd__law_cell_at ct__law_cell_at), sl__law_cell_at⟩) (c__law_cell_at : PySem.W.codeIn K cd__law_cell_at "_law_cell_at" = true) (k__law_cell_at : PySem.W.keepIn K (.ref f__law_cell_at) = true)
    {f__law_pool : Addr} {od__law_pool an__law_pool : Option Addr} {sl__law_pool : Array (Option Value)} {oc__law_pool kV__law_pool dc__law_pool pm__law_pool cd__law_pool ct__law_pool : Value}
    (a__law_pool : PySem.W.nsIn K mainGlobals "_law_pool" = some (some (.ref f__law_pool))) (l__law_pool : K.lookup f__law_pool = some ⟨oc__law_pool, od__law_pool, .func (PySem.W.fnOf "_law_pool" "_law_pool" (defArgs s__law_pool) (defBody s__law_pool) (defScope s__law_pool) .none kV__law_pool dc__law_pool pm__law_pool an__law_pool cd__law_pool ct__law_pool), sl__law_pool⟩) (c__law_pool : PySem.W.codeIn K cd__law_pool "_law_pool" = true) (k__law_pool : PySem.W.keepIn K (.ref f__law_pool) = true)
    {f__law_take : Addr} {od__law_take an__law_take : Option Addr} {sl__law_take : Array (Option Value)} {oc__law_take kV__law_take dc__law_take pm__law_take cd__law_take ct__law_take : Value}
    (a__law_take : PySem.W.nsIn K mainGlobals "_law_take" = some (some (.ref f__law_take))) (l__law_take : K.lookup f__law_take = some ⟨oc__law_take, od__law_take, .func (PySem.W.fnOf "_law_take" "_law_take" (defArgs s__law_take) (defBody s__law_take) (defScope s__law_take) .none kV__law_take dc__law_take pm__law_take an__law_take cd__law_take ct__law_take), sl__law_take⟩) (c__law_take : PySem.W.codeIn K cd__law_take "_law_take" = true) (k__law_take : PySem.W.keepIn K (.ref f__law_take) = true)
    {f__law_text : Addr} {od__law_text an__law_text : Option Addr} {sl__law_text : Array (Option Value)} {oc__law_text kV__law_text dc__law_text pm__law_text cd__law_text ct__law_text : Value}
    (a__law_text : PySem.W.nsIn K mainGlobals "_law_text" = some (some (.ref f__law_text))) (l__law_text : K.lookup f__law_text = some ⟨oc__law_text, od__law_text, .func (PySem.W.fnOf "_law_text" "_law_text" (defArgs s__law_text) (defBody s__law_text) (defScope s__law_text) .none kV__law_text dc__law_text pm__law_text an__law_text cd__law_text ct__law_text), sl__law_text⟩) (c__law_text : PySem.W.codeIn K cd__law_text "_law_text" = true) (k__law_text : PySem.W.keepIn K (.ref f__law_text) = true)
    {f__law_pattern : Addr} {od__law_pattern an__law_pattern : Option Addr} {sl__law_pattern : Array (Option Value)} {oc__law_pattern kV__law_pattern dc__law_pattern pm__law_pattern cd__law_pattern ct__law_pattern : Value}
    (a__law_pattern : PySem.W.nsIn K mainGlobals "_law_pattern" = some (some (.ref f__law_pattern))) (l__law_pattern : K.lookup f__law_pattern = some ⟨oc__law_pattern, od__law_pattern, .func (PySem.W.fnOf "_law_pattern" "_law_pattern" (defArgs s__law_pattern) (defBody s__law_pattern) (defScope s__law_pattern) .none kV__law_pattern dc__law_pattern pm__law_pattern an__law_pattern cd__law_pattern ct__law_pattern), sl__law_pattern⟩) (c__law_pattern : PySem.W.codeIn K cd__law_pattern "_law_pattern" = true) (k__law_pattern : PySem.W.keepIn K (.ref f__law_pattern) = true)
    {f__law_rule : Addr} {od__law_rule an__law_rule : Option Addr} {sl__law_rule : Array (Option Value)} {oc__law_rule kV__law_rule dc__law_rule pm__law_rule cd__law_rule ct__law_rule : Value}
    (a__law_rule : PySem.W.nsIn K mainGlobals "_law_rule" = some (some (.ref f__law_rule))) (l__law_rule : K.lookup f__law_rule = some ⟨oc__law_rule, od__law_rule, .func (PySem.W.fnOf "_law_rule" "_law_rule" (defArgs s__law_rule) (defBody s__law_rule) (defScope s__law_rule) .none kV__law_rule dc__law_rule pm__law_rule an__law_rule cd__law_rule ct__law_rule), sl__law_rule⟩) (c__law_rule : PySem.W.codeIn K cd__law_rule "_law_rule" = true) (k__law_rule : PySem.W.keepIn K (.ref f__law_rule) = true)
    {f__law_net : Addr} {od__law_net an__law_net : Option Addr} {sl__law_net : Array (Option Value)} {oc__law_net kV__law_net dc__law_net pm__law_net cd__law_net ct__law_net : Value}
    (a__law_net : PySem.W.nsIn K mainGlobals "_law_net" = some (some (.ref f__law_net))) (l__law_net : K.lookup f__law_net = some ⟨oc__law_net, od__law_net, .func (PySem.W.fnOf "_law_net" "_law_net" (defArgs s__law_net) (defBody s__law_net) (defScope s__law_net) .none kV__law_net dc__law_net pm__law_net an__law_net cd__law_net ct__law_net), sl__law_net⟩) (c__law_net : PySem.W.codeIn K cd__law_net "_law_net" = true) (k__law_net : PySem.W.keepIn K (.ref f__law_net) = true)
    {f__law_places : Addr} {od__law_places an__law_places : Option Addr} {sl__law_places : Array (Option Value)} {oc__law_places kV__law_places dc__law_places pm__law_places cd__law_places ct__law_places : Value}
    (a__law_places : PySem.W.nsIn K mainGlobals "_law_places" = some (some (.ref f__law_places))) (l__law_places : K.lookup f__law_places = some ⟨oc__law_places, od__law_places, .func (PySem.W.fnOf "_law_places" "_law_places" (defArgs s__law_places) (defBody s__law_places) (defScope s__law_places) .none kV__law_places dc__law_places pm__law_places an__law_places cd__law_places ct__law_places), sl__law_places⟩) (c__law_places : PySem.W.codeIn K cd__law_places "_law_places" = true) (k__law_places : PySem.W.keepIn K (.ref f__law_places) = true)
    {f_is_whole : Addr} {od_is_whole an_is_whole : Option Addr} {sl_is_whole : Array (Option Value)} {oc_is_whole kV_is_whole dc_is_whole pm_is_whole cd_is_whole ct_is_whole : Value}
    (a_is_whole : PySem.W.nsIn K mainGlobals "is_whole" = some (some (.ref f_is_whole))) (l_is_whole : K.lookup f_is_whole = some ⟨oc_is_whole, od_is_whole, .func (PySem.W.fnOf "is_whole" "is_whole" (defArgs s_is_whole) (defBody s_is_whole) (defScope s_is_whole) .none kV_is_whole dc_is_whole pm_is_whole an_is_whole cd_is_whole ct_is_whole), sl_is_whole⟩) (c_is_whole : PySem.W.codeIn K cd_is_whole "is_whole" = true) (k_is_whole : PySem.W.keepIn K (.ref f_is_whole) = true)
    {f_is_below : Addr} {od_is_below an_is_below : Option Addr} {sl_is_below : Array (Option Value)} {oc_is_below kV_is_below dc_is_below pm_is_below cd_is_below ct_is_below : Value}
    (a_is_below : PySem.W.nsIn K mainGlobals "is_below" = some (some (.ref f_is_below))) (l_is_below : K.lookup f_is_below = some ⟨oc_is_below, od_is_below, .func (PySem.W.fnOf "is_below" "is_below" (defArgs s_is_below) (defBody s_is_below) (defScope s_is_below) .none kV_is_below dc_is_below pm_is_below an_is_below cd_is_below ct_is_below), sl_is_below⟩) (c_is_below : PySem.W.codeIn K cd_is_below "is_below" = true) (k_is_below : PySem.W.keepIn K (.ref f_is_below) = true)
    {f_is_place : Addr} {od_is_place an_is_place : Option Addr} {sl_is_place : Array (Option Value)} {oc_is_place kV_is_place dc_is_place pm_is_place cd_is_place ct_is_place : Value}
    (a_is_place : PySem.W.nsIn K mainGlobals "is_place" = some (some (.ref f_is_place))) (l_is_place : K.lookup f_is_place = some ⟨oc_is_place, od_is_place, .func (PySem.W.fnOf "is_place" "is_place" (defArgs s_is_place) (defBody s_is_place) (defScope s_is_place) .none kV_is_place dc_is_place pm_is_place an_is_place cd_is_place ct_is_place), sl_is_place⟩) (c_is_place : PySem.W.codeIn K cd_is_place "is_place" = true) (k_is_place : PySem.W.keepIn K (.ref f_is_place) = true)
    {f_look_at_place : Addr} {od_look_at_place an_look_at_place : Option Addr} {sl_look_at_place : Array (Option Value)} {oc_look_at_place kV_look_at_place dc_look_at_place pm_look_at_place cd_look_at_place ct_look_at_place : Value}
    (a_look_at_place : PySem.W.nsIn K mainGlobals "look_at_place" = some (some (.ref f_look_at_place))) (l_look_at_place : K.lookup f_look_at_place = some ⟨oc_look_at_place, od_look_at_place, .func (PySem.W.fnOf "look_at_place" "look_at_place" (defArgs s_look_at_place) (defBody s_look_at_place) (defScope s_look_at_place) .none kV_look_at_place dc_look_at_place pm_look_at_place an_look_at_place cd_look_at_place ct_look_at_place), sl_look_at_place⟩) (c_look_at_place : PySem.W.codeIn K cd_look_at_place "look_at_place" = true) (k_look_at_place : PySem.W.keepIn K (.ref f_look_at_place) = true)
    {f_is_of : Addr} {od_is_of an_is_of : Option Addr} {sl_is_of : Array (Option Value)} {oc_is_of kV_is_of dc_is_of pm_is_of cd_is_of ct_is_of : Value}
    (a_is_of : PySem.W.nsIn K mainGlobals "is_of" = some (some (.ref f_is_of))) (l_is_of : K.lookup f_is_of = some ⟨oc_is_of, od_is_of, .func (PySem.W.fnOf "is_of" "is_of" (defArgs s_is_of) (defBody s_is_of) (defScope s_is_of) .none kV_is_of dc_is_of pm_is_of an_is_of cd_is_of ct_is_of), sl_is_of⟩) (c_is_of : PySem.W.codeIn K cd_is_of "is_of" = true) (k_is_of : PySem.W.keepIn K (.ref f_is_of) = true)
    {f_is_head : Addr} {od_is_head an_is_head : Option Addr} {sl_is_head : Array (Option Value)} {oc_is_head kV_is_head dc_is_head pm_is_head cd_is_head ct_is_head : Value}
    (a_is_head : PySem.W.nsIn K mainGlobals "is_head" = some (some (.ref f_is_head))) (l_is_head : K.lookup f_is_head = some ⟨oc_is_head, od_is_head, .func (PySem.W.fnOf "is_head" "is_head" (defArgs s_is_head) (defBody s_is_head) (defScope s_is_head) .none kV_is_head dc_is_head pm_is_head an_is_head cd_is_head ct_is_head), sl_is_head⟩) (c_is_head : PySem.W.codeIn K cd_is_head "is_head" = true) (k_is_head : PySem.W.keepIn K (.ref f_is_head) = true)
    {f_look_at_come : Addr} {od_look_at_come an_look_at_come : Option Addr} {sl_look_at_come : Array (Option Value)} {oc_look_at_come kV_look_at_come dc_look_at_come pm_look_at_come cd_look_at_come ct_look_at_come : Value}
    (a_look_at_come : PySem.W.nsIn K mainGlobals "look_at_come" = some (some (.ref f_look_at_come))) (l_look_at_come : K.lookup f_look_at_come = some ⟨oc_look_at_come, od_look_at_come, .func (PySem.W.fnOf "look_at_come" "look_at_come" (defArgs s_look_at_come) (defBody s_look_at_come) (defScope s_look_at_come) .none kV_look_at_come dc_look_at_come pm_look_at_come an_look_at_come cd_look_at_come ct_look_at_come), sl_look_at_come⟩) (c_look_at_come : PySem.W.codeIn K cd_look_at_come "look_at_come" = true) (k_look_at_come : PySem.W.keepIn K (.ref f_look_at_come) = true)
    {f_fits : Addr} {od_fits an_fits : Option Addr} {sl_fits : Array (Option Value)} {oc_fits kV_fits dc_fits pm_fits cd_fits ct_fits : Value}
    (a_fits : PySem.W.nsIn K mainGlobals "fits" = some (some (.ref f_fits))) (l_fits : K.lookup f_fits = some ⟨oc_fits, od_fits, .func (PySem.W.fnOf "fits" "fits" (defArgs s_fits) (defBody s_fits) (defScope s_fits) .none kV_fits dc_fits pm_fits an_fits cd_fits ct_fits), sl_fits⟩) (c_fits : PySem.W.codeIn K cd_fits "fits" = true) (k_fits : PySem.W.keepIn K (.ref f_fits) = true)
    {f_is_met : Addr} {od_is_met an_is_met : Option Addr} {sl_is_met : Array (Option Value)} {oc_is_met kV_is_met dc_is_met pm_is_met cd_is_met ct_is_met : Value}
    (a_is_met : PySem.W.nsIn K mainGlobals "is_met" = some (some (.ref f_is_met))) (l_is_met : K.lookup f_is_met = some ⟨oc_is_met, od_is_met, .func (PySem.W.fnOf "is_met" "is_met" (defArgs s_is_met) (defBody s_is_met) (defScope s_is_met) .none kV_is_met dc_is_met pm_is_met an_is_met cd_is_met ct_is_met), sl_is_met⟩) (c_is_met : PySem.W.codeIn K cd_is_met "is_met" = true) (k_is_met : PySem.W.keepIn K (.ref f_is_met) = true)
    {f_number_met : Addr} {od_number_met an_number_met : Option Addr} {sl_number_met : Array (Option Value)} {oc_number_met kV_number_met dc_number_met pm_number_met cd_number_met ct_number_met : Value}
    (a_number_met : PySem.W.nsIn K mainGlobals "number_met" = some (some (.ref f_number_met))) (l_number_met : K.lookup f_number_met = some ⟨oc_number_met, od_number_met, .func (PySem.W.fnOf "number_met" "number_met" (defArgs s_number_met) (defBody s_number_met) (defScope s_number_met) .none kV_number_met dc_number_met pm_number_met an_number_met cd_number_met ct_number_met), sl_number_met⟩) (c_number_met : PySem.W.codeIn K cd_number_met "number_met" = true) (k_number_met : PySem.W.keepIn K (.ref f_number_met) = true)
    {f_other_end : Addr} {od_other_end an_other_end : Option Addr} {sl_other_end : Array (Option Value)} {oc_other_end kV_other_end dc_other_end pm_other_end cd_other_end ct_other_end : Value}
    (a_other_end : PySem.W.nsIn K mainGlobals "other_end" = some (some (.ref f_other_end))) (l_other_end : K.lookup f_other_end = some ⟨oc_other_end, od_other_end, .func (PySem.W.fnOf "other_end" "other_end" (defArgs s_other_end) (defBody s_other_end) (defScope s_other_end) .none kV_other_end dc_other_end pm_other_end an_other_end cd_other_end ct_other_end), sl_other_end⟩) (c_other_end : PySem.W.codeIn K cd_other_end "other_end" = true) (k_other_end : PySem.W.keepIn K (.ref f_other_end) = true)
    {f_put : Addr} {od_put an_put : Option Addr} {sl_put : Array (Option Value)} {oc_put kV_put dc_put pm_put cd_put ct_put : Value}
    (a_put : PySem.W.nsIn K mainGlobals "put" = some (some (.ref f_put))) (l_put : K.lookup f_put = some ⟨oc_put, od_put, .func (PySem.W.fnOf "put" "put" (defArgs s_put) (defBody s_put) (defScope s_put) .none kV_put dc_put pm_put an_put cd_put ct_put), sl_put⟩) (c_put : PySem.W.codeIn K cd_put "put" = true) (k_put : PySem.W.keepIn K (.ref f_put) = true)
    {f_led_by : Addr} {od_led_by an_led_by : Option Addr} {sl_led_by : Array (Option Value)} {oc_led_by kV_led_by dc_led_by pm_led_by cd_led_by ct_led_by : Value}
    (a_led_by : PySem.W.nsIn K mainGlobals "led_by" = some (some (.ref f_led_by))) (l_led_by : K.lookup f_led_by = some ⟨oc_led_by, od_led_by, .func (PySem.W.fnOf "led_by" "led_by" (defArgs s_led_by) (defBody s_led_by) (defScope s_led_by) .none kV_led_by dc_led_by pm_led_by an_led_by cd_led_by ct_led_by), sl_led_by⟩) (c_led_by : PySem.W.codeIn K cd_led_by "led_by" = true) (k_led_by : PySem.W.keepIn K (.ref f_led_by) = true)
    {f_all_come : Addr} {od_all_come an_all_come : Option Addr} {sl_all_come : Array (Option Value)} {oc_all_come kV_all_come dc_all_come pm_all_come cd_all_come ct_all_come : Value}
    (a_all_come : PySem.W.nsIn K mainGlobals "all_come" = some (some (.ref f_all_come))) (l_all_come : K.lookup f_all_come = some ⟨oc_all_come, od_all_come, .func (PySem.W.fnOf "all_come" "all_come" (defArgs s_all_come) (defBody s_all_come) (defScope s_all_come) .none kV_all_come dc_all_come pm_all_come an_all_come cd_all_come ct_all_come), sl_all_come⟩) (c_all_come : PySem.W.codeIn K cd_all_come "all_come" = true) (k_all_come : PySem.W.keepIn K (.ref f_all_come) = true)
    {f_comes : Addr} {od_comes an_comes : Option Addr} {sl_comes : Array (Option Value)} {oc_comes kV_comes dc_comes pm_comes cd_comes ct_comes : Value}
    (a_comes : PySem.W.nsIn K mainGlobals "comes" = some (some (.ref f_comes))) (l_comes : K.lookup f_comes = some ⟨oc_comes, od_comes, .func (PySem.W.fnOf "comes" "comes" (defArgs s_comes) (defBody s_comes) (defScope s_comes) .none kV_comes dc_comes pm_comes an_comes cd_comes ct_comes), sl_comes⟩) (c_comes : PySem.W.codeIn K cd_comes "comes" = true) (k_comes : PySem.W.keepIn K (.ref f_comes) = true)
    {f__law_fits : Addr} {od__law_fits an__law_fits : Option Addr} {sl__law_fits : Array (Option Value)} {oc__law_fits kV__law_fits dc__law_fits pm__law_fits cd__law_fits ct__law_fits : Value}
    (a__law_fits : PySem.W.nsIn K mainGlobals "_law_fits" = some (some (.ref f__law_fits))) (l__law_fits : K.lookup f__law_fits = some ⟨oc__law_fits, od__law_fits, .func (PySem.W.fnOf "_law_fits" "_law_fits" (defArgs s__law_fits) (defBody s__law_fits) (defScope s__law_fits) .none kV__law_fits dc__law_fits pm__law_fits an__law_fits cd__law_fits ct__law_fits), sl__law_fits⟩) (c__law_fits : PySem.W.codeIn K cd__law_fits "_law_fits" = true) (k__law_fits : PySem.W.keepIn K (.ref f__law_fits) = true)
    {f__law_rule_met : Addr} {od__law_rule_met an__law_rule_met : Option Addr} {sl__law_rule_met : Array (Option Value)} {oc__law_rule_met kV__law_rule_met dc__law_rule_met pm__law_rule_met cd__law_rule_met ct__law_rule_met : Value}
    (a__law_rule_met : PySem.W.nsIn K mainGlobals "_law_rule_met" = some (some (.ref f__law_rule_met))) (l__law_rule_met : K.lookup f__law_rule_met = some ⟨oc__law_rule_met, od__law_rule_met, .func (PySem.W.fnOf "_law_rule_met" "_law_rule_met" (defArgs s__law_rule_met) (defBody s__law_rule_met) (defScope s__law_rule_met) .none kV__law_rule_met dc__law_rule_met pm__law_rule_met an__law_rule_met cd__law_rule_met ct__law_rule_met), sl__law_rule_met⟩) (c__law_rule_met : PySem.W.codeIn K cd__law_rule_met "_law_rule_met" = true) (k__law_rule_met : PySem.W.keepIn K (.ref f__law_rule_met) = true)
    {f__law_across : Addr} {od__law_across an__law_across : Option Addr} {sl__law_across : Array (Option Value)} {oc__law_across kV__law_across dc__law_across pm__law_across cd__law_across ct__law_across : Value}
    (a__law_across : PySem.W.nsIn K mainGlobals "_law_across" = some (some (.ref f__law_across))) (l__law_across : K.lookup f__law_across = some ⟨oc__law_across, od__law_across, .func (PySem.W.fnOf "_law_across" "_law_across" (defArgs s__law_across) (defBody s__law_across) (defScope s__law_across) .none kV__law_across dc__law_across pm__law_across an__law_across cd__law_across ct__law_across), sl__law_across⟩) (c__law_across : PySem.W.codeIn K cd__law_across "_law_across" = true) (k__law_across : PySem.W.keepIn K (.ref f__law_across) = true)
    {f__law_put : Addr} {od__law_put an__law_put : Option Addr} {sl__law_put : Array (Option Value)} {oc__law_put kV__law_put dc__law_put pm__law_put cd__law_put ct__law_put : Value}
    (a__law_put : PySem.W.nsIn K mainGlobals "_law_put" = some (some (.ref f__law_put))) (l__law_put : K.lookup f__law_put = some ⟨oc__law_put, od__law_put, .func (PySem.W.fnOf "_law_put" "_law_put" (defArgs s__law_put) (defBody s__law_put) (defScope s__law_put) .none kV__law_put dc__law_put pm__law_put an__law_put cd__law_put ct__law_put), sl__law_put⟩) (c__law_put : PySem.W.codeIn K cd__law_put "_law_put" = true) (k__law_put : PySem.W.keepIn K (.ref f__law_put) = true)
    {f__law_comes : Addr} {od__law_comes an__law_comes : Option Addr} {sl__law_comes : Array (Option Value)} {oc__law_comes kV__law_comes dc__law_comes pm__law_comes cd__law_comes ct__law_comes : Value}
    (a__law_comes : PySem.W.nsIn K mainGlobals "_law_comes" = some (some (.ref f__law_comes))) (l__law_comes : K.lookup f__law_comes = some ⟨oc__law_comes, od__law_comes, .func (PySem.W.fnOf "_law_comes" "_law_comes" (defArgs s__law_comes) (defBody s__law_comes) (defScope s__law_comes) .none kV__law_comes dc__law_comes pm__law_comes an__law_comes cd__law_comes ct__law_comes), sl__law_comes⟩) (c__law_comes : PySem.W.codeIn K cd__law_comes "_law_comes" = true) (k__law_comes : PySem.W.keepIn K (.ref f__law_comes) = true)
    {f__law_kind : Addr} {od__law_kind an__law_kind : Option Addr} {sl__law_kind : Array (Option Value)} {oc__law_kind kV__law_kind dc__law_kind pm__law_kind cd__law_kind ct__law_kind : Value}
    (a__law_kind : PySem.W.nsIn K mainGlobals "_law_kind" = some (some (.ref f__law_kind))) (l__law_kind : K.lookup f__law_kind = some ⟨oc__law_kind, od__law_kind, .func (PySem.W.fnOf "_law_kind" "_law_kind" (defArgs s__law_kind) (defBody s__law_kind) (defScope s__law_kind) .none kV__law_kind dc__law_kind pm__law_kind an__law_kind cd__law_kind ct__law_kind), sl__law_kind⟩) (c__law_kind : PySem.W.codeIn K cd__law_kind "_law_kind" = true) (k__law_kind : PySem.W.keepIn K (.ref f__law_kind) = true)
    {f_rule_met : Addr} {od_rule_met an_rule_met : Option Addr} {sl_rule_met : Array (Option Value)} {oc_rule_met kV_rule_met dc_rule_met pm_rule_met cd_rule_met ct_rule_met : Value}
    (a_rule_met : PySem.W.nsIn K mainGlobals "rule_met" = some (some (.ref f_rule_met))) (l_rule_met : K.lookup f_rule_met = some ⟨oc_rule_met, od_rule_met, .func (PySem.W.fnOf "rule_met" "rule_met" (defArgs s_rule_met) (defBody s_rule_met) (defScope s_rule_met) .none kV_rule_met dc_rule_met pm_rule_met an_rule_met cd_rule_met ct_rule_met), sl_rule_met⟩) (c_rule_met : PySem.W.codeIn K cd_rule_met "rule_met" = true) (k_rule_met : PySem.W.keepIn K (.ref f_rule_met) = true)
    {f__law_both : Addr} {od__law_both an__law_both : Option Addr} {sl__law_both : Array (Option Value)} {oc__law_both kV__law_both dc__law_both pm__law_both cd__law_both ct__law_both : Value}
    (a__law_both : PySem.W.nsIn K mainGlobals "_law_both" = some (some (.ref f__law_both))) (l__law_both : K.lookup f__law_both = some ⟨oc__law_both, od__law_both, .func (PySem.W.fnOf "_law_both" "_law_both" (defArgs s__law_both) (defBody s__law_both) (defScope s__law_both) .none kV__law_both dc__law_both pm__law_both an__law_both cd__law_both ct__law_both), sl__law_both⟩) (c__law_both : PySem.W.codeIn K cd__law_both "_law_both" = true) (k__law_both : PySem.W.keepIn K (.ref f__law_both) = true)
    {f_law : Addr} {od_law an_law : Option Addr} {sl_law : Array (Option Value)} {oc_law kV_law dc_law pm_law cd_law ct_law : Value}
    (a_law : PySem.W.nsIn K mainGlobals "law" = some (some (.ref f_law))) (l_law : K.lookup f_law = some ⟨oc_law, od_law, .func (PySem.W.fnOf "law" "law" (defArgs s_law) (defBody s_law) (defScope s_law) .none kV_law dc_law pm_law an_law cd_law ct_law), sl_law⟩) (c_law : PySem.W.codeIn K cd_law "law" = true) (k_law : PySem.W.keepIn K (.ref f_law) = true)
    (z_len : PySem.W.nsIn K mainGlobals "len" = some none)
    (z_range : PySem.W.nsIn K mainGlobals "range" = some none)
    (z_enumerate : PySem.W.nsIn K mainGlobals "enumerate" = some none)
    (z_min : PySem.W.nsIn K mainGlobals "min" = some none)
    (z_max : PySem.W.nsIn K mainGlobals "max" = some none)
    (z_isinstance : PySem.W.nsIn K mainGlobals "isinstance" = some none)
    (z_int : PySem.W.nsIn K mainGlobals "int" = some none)
    (z_bool : PySem.W.nsIn K mainGlobals "bool" = some none)
    (z_tuple : PySem.W.nsIn K mainGlobals "tuple" = some none)
    (z_str : PySem.W.nsIn K mainGlobals "str" = some none)
    (z_all : PySem.W.nsIn K mainGlobals "all" = some none)
    (z_zip : PySem.W.nsIn K mainGlobals "zip" = some none)
    (z_list : PySem.W.nsIn K mainGlobals "list" = some none)
    (xx_NoPlace : PySem.W.excIn K a_NoPlace [.type "ValueError", .type "Exception", .type "BaseException", .type "object"] "ValueError.__new__" = true)
    (xk_NoPlace : PySem.W.keepIn K (.ref a_NoPlace) = true)
    (xb_NoPlace : PySem.W.subIn K (.ref a_NoPlace) (.type "BaseException") = some true)
    (xt_NoPlace : PySem.W.typeIn K (.ref a_NoPlace) = some (.type "type"))
    (xx_NoHead : PySem.W.excIn K a_NoHead [.type "ValueError", .type "Exception", .type "BaseException", .type "object"] "ValueError.__new__" = true)
    (xk_NoHead : PySem.W.keepIn K (.ref a_NoHead) = true)
    (xb_NoHead : PySem.W.subIn K (.ref a_NoHead) (.type "BaseException") = some true)
    (xt_NoHead : PySem.W.typeIn K (.ref a_NoHead) = some (.type "type"))
    (hem_NoHead_HeadError : PySem.W.exmOne K (.ref a_NoHead) (.ref a_HeadError) = some true)
    (hem_NoPlace_HeadError : PySem.W.exmOne K (.ref a_NoPlace) (.ref a_HeadError) = some true)
    (e1_NoHead : PySem.W.findIn K (.ref a_NoHead) "__getattribute__" = some (some (.builtin "BaseException.__getattribute__")))
    (e2_NoHead : PySem.W.findIn K (.ref a_NoHead) "__getattr__" = some none)
    (e3_NoHead : PySem.W.subIn K (.ref a_NoHead) (.type "BaseException") = some true)
    (e4_NoHead : PySem.W.hasDictIn K a_NoHead = true)
    (e5_NoHead : PySem.W.findIn K (.ref a_NoHead) "__class__" = some (some (.builtin "object.__class__")))
    (e6_NoHead : PySem.W.specialIn K (.builtin "object.__class__") "__get__" = some (some (.builtin "getset_descriptor.__get__")))
    (e7_NoHead : PySem.W.takesIn K (.builtin "object.__class__") = some true)
    (e8_NoHead : PySem.W.mroIn K a_NoHead (.type "object") = some true)
    (hki_NoHead_ValueError : PySem.W.kitOne K (.ref a_NoHead) (.type "ValueError") = some true)
    (e1_NoPlace : PySem.W.findIn K (.ref a_NoPlace) "__getattribute__" = some (some (.builtin "BaseException.__getattribute__")))
    (e2_NoPlace : PySem.W.findIn K (.ref a_NoPlace) "__getattr__" = some none)
    (e3_NoPlace : PySem.W.subIn K (.ref a_NoPlace) (.type "BaseException") = some true)
    (e4_NoPlace : PySem.W.hasDictIn K a_NoPlace = true)
    (e5_NoPlace : PySem.W.findIn K (.ref a_NoPlace) "__class__" = some (some (.builtin "object.__class__")))
    (e6_NoPlace : PySem.W.specialIn K (.builtin "object.__class__") "__get__" = some (some (.builtin "getset_descriptor.__get__")))
    (e7_NoPlace : PySem.W.takesIn K (.builtin "object.__class__") = some true)
    (e8_NoPlace : PySem.W.mroIn K a_NoPlace (.type "object") = some true)
    (hki_NoPlace_ValueError : PySem.W.kitOne K (.ref a_NoPlace) (.type "ValueError") = some true)
    (z_ValueError : PySem.W.nsIn K mainGlobals "ValueError" = some none)
    (hka_NoHead_NoNet_NoRule_NoWay : PySem.W.kitAny K (.ref a_NoHead) [(.ref a_NoNet), (.ref a_NoRule), (.ref a_NoWay)] = some false)
    (hka_NoPlace_NoNet_NoRule_NoWay : PySem.W.kitAny K (.ref a_NoPlace) [(.ref a_NoNet), (.ref a_NoRule), (.ref a_NoWay)] = some false)
    (hki_NoHead_NoHead : PySem.W.kitOne K (.ref a_NoHead) (.ref a_NoHead) = some true)
    (hki_NoPlace_NoHead : PySem.W.kitOne K (.ref a_NoPlace) (.ref a_NoHead) = some false)
    (hki_NoHead_NoPlace : PySem.W.kitOne K (.ref a_NoHead) (.ref a_NoPlace) = some false)
    (hki_NoPlace_NoPlace : PySem.W.kitOne K (.ref a_NoPlace) (.ref a_NoPlace) = some true)
    {t_STAR : Tok} (v_STAR : PySem.W.nsIn K mainGlobals "STAR" = some (some (.str ⟨[42].toArray⟩ t_STAR)))
    {tc__law_both tP__law_both : Addr} (tb__law_both : PySem.W.tabIn K "_law_both" = some (tc__law_both, tP__law_both)) (nt__law_both : K.lookup tP__law_both = none) (hcd__law_both : cd__law_both = .ref tc__law_both)
    : ∃ (cs : List (Str × Addr × Addr)) (fd : FuncData), (∀ p ∈ cs, p.1 ∈ (["_law_both"] : List Str) ∧ PySem.W.tabIn K p.1 = some p.2 ∧ K.lookup p.2.2 = none) ∧ (∀ (s : Shared) (v : Value), BindsTo s fd ⟨[v], []⟩ [("_law_script", v)]) ∧ ∀ base : Heap, K.In base → base.Ns mainGlobals mg → (∀ p ∈ cs, LamX.TabB base mg p.2.1 p.2.2) → FnG l.prog w K mg base 10 fa fd ["_law_script"] (spLawT K (cs.map (·.2.2))) := by
  have e := hfa.symm.trans (PySem.W.mg_of X G a_law)
  cases e
  have T : Txt K mg ⟨K, clT [("NoPlace", a_NoPlace), ("NoHead", a_NoHead), ("HeadError", a_HeadError), ("NoNet", a_NoNet), ("NoRule", a_NoRule), ("NoWay", a_NoWay)], fun _ => False⟩ := ⟨rfl, fun _ h => h.elim, PySem.W.mg_none_of X G z_len, PySem.W.mg_none_of X G z_range, PySem.W.mg_none_of X G z_enumerate, PySem.W.mg_none_of X G z_min, PySem.W.mg_none_of X G z_max, PySem.W.mg_none_of X G z_isinstance, PySem.W.mg_none_of X G z_int, PySem.W.mg_none_of X G z_bool, PySem.W.mg_none_of X G z_tuple, PySem.W.mg_none_of X G z_str, PySem.W.mg_none_of X G z_all, PySem.W.mg_none_of X G z_zip, PySem.W.mg_none_of X G z_list, ⟨PySem.W.mg_of X G ag_NoPlace, xx_NoPlace, xk_NoPlace, xb_NoPlace, xt_NoPlace⟩, ⟨PySem.W.mg_of X G ag_NoHead, xx_NoHead, xk_NoHead, xb_NoHead, xt_NoHead⟩, PySem.W.mg_of X G ag_HeadError, hem_NoHead_HeadError, hem_NoPlace_HeadError, ⟨e1_NoHead, e2_NoHead, e3_NoHead, e4_NoHead, e5_NoHead, e6_NoHead, e7_NoHead, e8_NoHead⟩, hki_NoHead_ValueError, ⟨e1_NoPlace, e2_NoPlace, e3_NoPlace, e4_NoPlace, e5_NoPlace, e6_NoPlace, e7_NoPlace, e8_NoPlace⟩, hki_NoPlace_ValueError, PySem.W.mg_none_of X G z_ValueError, hka_NoHead_NoNet_NoRule_NoWay, hka_NoPlace_NoNet_NoRule_NoWay, PySem.W.mg_of X G ag_NoWay, PySem.W.mg_of X G ag_NoRule, PySem.W.mg_of X G ag_NoNet, hki_NoHead_NoHead, hki_NoPlace_NoHead, PySem.W.mg_of X G ag_NoHead, hki_NoHead_NoPlace, hki_NoPlace_NoPlace, PySem.W.mg_of X G ag_NoPlace, ⟨_, PySem.W.mg_of X G v_STAR⟩⟩
  have F__law_cell_at := fun_mk (st := s__law_cell_at) l__law_cell_at c__law_cell_at k__law_cell_at
  have b__law_cell_at := F__law_cell_at.binds (ps := ["_law_script", "_law_k"]) fun _ _ _ _ _ _ us hl => match us, hl with | [_, _], _ => rfl
  have F__law_pool := fun_mk (st := s__law_pool) l__law_pool c__law_pool k__law_pool
  have b__law_pool := F__law_pool.binds (ps := ["_law_script", "_law_k"]) fun _ _ _ _ _ _ us hl => match us, hl with | [_, _], _ => rfl
  have F__law_take := fun_mk (st := s__law_take) l__law_take c__law_take k__law_take
  have b__law_take := F__law_take.binds (ps := ["_law_pool_here", "_law_many"]) fun _ _ _ _ _ _ us hl => match us, hl with | [_, _], _ => rfl
  have F__law_text := fun_mk (st := s__law_text) l__law_text c__law_text k__law_text
  have b__law_text := F__law_text.binds (ps := ["_law_pool_here", "_law_width", "_law_signs"]) fun _ _ _ _ _ _ us hl => match us, hl with | [_, _, _], _ => rfl
  have F__law_pattern := fun_mk (st := s__law_pattern) l__law_pattern c__law_pattern k__law_pattern
  have b__law_pattern := F__law_pattern.binds (ps := ["_law_pool_here", "_law_width"]) fun _ _ _ _ _ _ us hl => match us, hl with | [_, _], _ => rfl
  have F__law_rule := fun_mk (st := s__law_rule) l__law_rule c__law_rule k__law_rule
  have b__law_rule := F__law_rule.binds (ps := ["_law_pool_here", "_law_width", "_law_doors"]) fun _ _ _ _ _ _ us hl => match us, hl with | [_, _, _], _ => rfl
  have F__law_net := fun_mk (st := s__law_net) l__law_net c__law_net k__law_net
  have b__law_net := F__law_net.binds (ps := ["_law_pool_here", "_law_width", "_law_most"]) fun _ _ _ _ _ _ us hl => match us, hl with | [_, _, _], _ => rfl
  have F__law_places := fun_mk (st := s__law_places) l__law_places c__law_places k__law_places
  have b__law_places := F__law_places.binds (ps := ["_law_net_here"]) fun _ _ _ _ _ _ us hl => match us, hl with | [_], _ => rfl
  have F_is_whole := fun_mk (st := s_is_whole) l_is_whole c_is_whole k_is_whole
  have b_is_whole := F_is_whole.binds (ps := ["thing"]) fun _ _ _ _ _ _ us hl => match us, hl with | [_], _ => rfl
  have F_is_below := fun_mk (st := s_is_below) l_is_below c_is_below k_is_below
  have b_is_below := F_is_below.binds (ps := ["thing", "many"]) fun _ _ _ _ _ _ us hl => match us, hl with | [_, _], _ => rfl
  have F_is_place := fun_mk (st := s_is_place) l_is_place c_is_place k_is_place
  have b_is_place := F_is_place.binds (ps := ["switches", "thing"]) fun _ _ _ _ _ _ us hl => match us, hl with | [_, _], _ => rfl
  have F_look_at_place := fun_mk (st := s_look_at_place) l_look_at_place c_look_at_place k_look_at_place
  have b_look_at_place := F_look_at_place.binds (ps := ["net", "place"]) fun _ _ _ _ _ _ us hl => match us, hl with | [_, _], _ => rfl
  have F_is_of := fun_mk (st := s_is_of) l_is_of c_is_of k_is_of
  have b_is_of := F_is_of.binds (ps := ["thing", "width", "signs"]) fun _ _ _ _ _ _ us hl => match us, hl with | [_, _, _], _ => rfl
  have F_is_head := fun_mk (st := s_is_head) l_is_head c_is_head k_is_head
  have b_is_head := F_is_head.binds (ps := ["thing", "width"]) fun _ _ _ _ _ _ us hl => match us, hl with | [_, _], _ => rfl
  have F_look_at_come := fun_mk (st := s_look_at_come) l_look_at_come c_look_at_come k_look_at_come
  have b_look_at_come := F_look_at_come.binds (ps := ["net", "place", "head"]) fun _ _ _ _ _ _ us hl => match us, hl with | [_, _, _], _ => rfl
  have F_fits := fun_mk (st := s_fits) l_fits c_fits k_fits
  have b_fits := F_fits.binds (ps := ["pattern", "head"]) fun _ _ _ _ _ _ us hl => match us, hl with | [_, _], _ => rfl
  have F_is_met := fun_mk (st := s_is_met) l_is_met c_is_met k_is_met
  have b_is_met := F_is_met.binds (ps := ["rule", "door", "head"]) fun _ _ _ _ _ _ us hl => match us, hl with | [_, _, _], _ => rfl
  have F_number_met := fun_mk (st := s_number_met) l_number_met c_number_met k_number_met
  have b_number_met := F_number_met.binds (ps := ["net", "place", "head"]) fun _ _ _ _ _ _ us hl => match us, hl with | [_, _, _], _ => rfl
  have F_other_end := fun_mk (st := s_other_end) l_other_end c_other_end k_other_end
  have b_other_end := F_other_end.binds (ps := ["net", "place"]) fun _ _ _ _ _ _ us hl => match us, hl with | [_, _], _ => rfl
  have F_put := fun_mk (st := s_put) l_put c_put k_put
  have b_put := F_put.binds (ps := ["pattern", "by"]) fun _ _ _ _ _ _ us hl => match us, hl with | [_, _], _ => rfl
  have F_led_by := fun_mk (st := s_led_by) l_led_by c_led_by k_led_by
  have b_led_by := F_led_by.binds (ps := ["net", "switch", "out", "head"]) fun _ _ _ _ _ _ us hl => match us, hl with | [_, _, _, _], _ => rfl
  have F_all_come := fun_mk (st := s_all_come) l_all_come c_all_come k_all_come
  have b_all_come := F_all_come.binds (ps := ["net", "place", "head"]) fun _ _ _ _ _ _ us hl => match us, hl with | [_, _, _], _ => rfl
  have F_comes := fun_mk (st := s_comes) l_comes c_comes k_comes
  have b_comes := F_comes.binds (ps := ["net", "place", "head"]) fun _ _ _ _ _ _ us hl => match us, hl with | [_, _, _], _ => rfl
  have F__law_fits := fun_mk (st := s__law_fits) l__law_fits c__law_fits k__law_fits
  have b__law_fits := F__law_fits.binds (ps := ["_law_pattern_here", "_law_head"]) fun _ _ _ _ _ _ us hl => match us, hl with | [_, _], _ => rfl
  have F__law_rule_met := fun_mk (st := s__law_rule_met) l__law_rule_met c__law_rule_met k__law_rule_met
  have b__law_rule_met := F__law_rule_met.binds (ps := ["_law_net_here", "_law_place", "_law_head"]) fun _ _ _ _ _ _ us hl => match us, hl with | [_, _, _], _ => rfl
  have F__law_across := fun_mk (st := s__law_across) l__law_across c__law_across k__law_across
  have b__law_across := F__law_across.binds (ps := ["_law_net_here", "_law_place"]) fun _ _ _ _ _ _ us hl => match us, hl with | [_, _], _ => rfl
  have F__law_put := fun_mk (st := s__law_put) l__law_put c__law_put k__law_put
  have b__law_put := F__law_put.binds (ps := ["_law_head", "_law_by"]) fun _ _ _ _ _ _ us hl => match us, hl with | [_, _], _ => rfl
  have F__law_comes := fun_mk (st := s__law_comes) l__law_comes c__law_comes k__law_comes
  have b__law_comes := F__law_comes.binds (ps := ["_law_net_here", "_law_place", "_law_head"]) fun _ _ _ _ _ _ us hl => match us, hl with | [_, _, _], _ => rfl
  have F__law_kind := fun_mk (st := s__law_kind) l__law_kind c__law_kind k__law_kind
  have b__law_kind := F__law_kind.binds (ps := ["_law_call"]) fun _ _ _ _ _ _ us hl => match us, hl with | [_], _ => rfl
  have F_rule_met := fun_mk (st := s_rule_met) l_rule_met c_rule_met k_rule_met
  have b_rule_met := F_rule_met.binds (ps := ["net", "place", "head"]) fun _ _ _ _ _ _ us hl => match us, hl with | [_, _, _], _ => rfl
  have F__law_both := fun_mk (st := s__law_both) l__law_both c__law_both k__law_both
  have b__law_both := F__law_both.binds (ps := ["_law_net_here", "_law_place", "_law_head"]) fun _ _ _ _ _ _ us hl => match us, hl with | [_, _, _], _ => rfl
  have F_law := fun_mk (st := s_law) l_law c_law k_law
  refine ⟨[("_law_both", tc__law_both, tP__law_both)], PySem.W.fnOf "law" "law" (defArgs s_law) (defBody s_law) (defScope s_law) .none kV_law dc_law pm_law an_law cd_law ct_law, ?_, fun s v => .of_eq rfl, fun base _ _ TB => ?_⟩
  · intro p hp
    simp only [List.mem_cons, List.not_mem_nil, or_false] at hp
    rcases hp with rfl
    · exact ⟨by simp, tb__law_both, nt__law_both⟩
  letI : Tbs := ⟨tbOf [("_law_both", tc__law_both, tP__law_both)]⟩
  have B__law_both := lamB_mk (mg := mg) (base := base) (cs := [("_law_both", tc__law_both, tP__law_both)]) (x := "_law_both") (c := tc__law_both) (P := tP__law_both) rfl (by simp) TB hcd__law_both (by
    intro p hp e
    simp only [List.mem_cons, List.not_mem_nil, or_false] at hp
    rcases hp with rfl
    · rfl)
  have C__law_cell_at := ok__law_cell_at (P := l.prog) (w := w) (base := base) T  F__law_cell_at (PySem.W.mg_of X G a__law_cell_at) b__law_cell_at
  have C__law_pool := ok__law_pool (P := l.prog) (w := w) (base := base) T C__law_cell_at F__law_pool (PySem.W.mg_of X G a__law_pool) b__law_pool
  have C__law_take := ok__law_take (P := l.prog) (w := w) (base := base) T  F__law_take (PySem.W.mg_of X G a__law_take) b__law_take
  have C__law_text := ok__law_text (P := l.prog) (w := w) (base := base) T C__law_take F__law_text (PySem.W.mg_of X G a__law_text) b__law_text
  have C__law_pattern := ok__law_pattern (P := l.prog) (w := w) (base := base) T C__law_text C__law_take F__law_pattern (PySem.W.mg_of X G a__law_pattern) b__law_pattern
  have C__law_rule := ok__law_rule (P := l.prog) (w := w) (base := base) T C__law_take C__law_pattern C__law_text F__law_rule (PySem.W.mg_of X G a__law_rule) b__law_rule
  have C__law_net := ok__law_net (P := l.prog) (w := w) (base := base) T C__law_take C__law_rule F__law_net (PySem.W.mg_of X G a__law_net) b__law_net
  have C__law_places := ok__law_places (P := l.prog) (w := w) (base := base) T  F__law_places (PySem.W.mg_of X G a__law_places) b__law_places
  have C_is_whole := ok_is_whole (P := l.prog) (w := w) (base := base) T  F_is_whole (PySem.W.mg_of X G a_is_whole) b_is_whole
  have C_is_below := ok_is_below (P := l.prog) (w := w) (base := base) T C_is_whole F_is_below (PySem.W.mg_of X G a_is_below) b_is_below
  have C_is_place := ok_is_place (P := l.prog) (w := w) (base := base) T C_is_below F_is_place (PySem.W.mg_of X G a_is_place) b_is_place
  have C_look_at_place := ok_look_at_place (P := l.prog) (w := w) (base := base) T C_is_place F_look_at_place (PySem.W.mg_of X G a_look_at_place) b_look_at_place
  have C_is_of := ok_is_of (P := l.prog) (w := w) (base := base) T  F_is_of (PySem.W.mg_of X G a_is_of) b_is_of
  have C_is_head := ok_is_head (P := l.prog) (w := w) (base := base) T C_is_of F_is_head (PySem.W.mg_of X G a_is_head) b_is_head
  have C_look_at_come := ok_look_at_come (P := l.prog) (w := w) (base := base) T C_look_at_place C_is_head F_look_at_come (PySem.W.mg_of X G a_look_at_come) b_look_at_come
  have C_fits := ok_fits (P := l.prog) (w := w) (base := base) T  F_fits (PySem.W.mg_of X G a_fits) b_fits
  have C_is_met := ok_is_met (P := l.prog) (w := w) (base := base) T C_fits F_is_met (PySem.W.mg_of X G a_is_met) b_is_met
  have C_number_met := ok_number_met (P := l.prog) (w := w) (base := base) T C_is_met F_number_met (PySem.W.mg_of X G a_number_met) b_number_met
  have C_other_end := ok_other_end (P := l.prog) (w := w) (base := base) T  F_other_end (PySem.W.mg_of X G a_other_end) b_other_end
  have C_put := ok_put (P := l.prog) (w := w) (base := base) T  F_put (PySem.W.mg_of X G a_put) b_put
  have C_led_by := ok_led_by (P := l.prog) (w := w) (base := base) T C_other_end C_put F_led_by (PySem.W.mg_of X G a_led_by) b_led_by
  have C_all_come := ok_all_come (P := l.prog) (w := w) (base := base) T C_number_met C_led_by F_all_come (PySem.W.mg_of X G a_all_come) b_all_come
  have C_comes := ok_comes (P := l.prog) (w := w) (base := base) T C_look_at_come C_all_come F_comes (PySem.W.mg_of X G a_comes) b_comes
  have C__law_fits := ok__law_fits (P := l.prog) (w := w) (base := base) T  F__law_fits (PySem.W.mg_of X G a__law_fits) b__law_fits
  have C__law_rule_met := ok__law_rule_met (P := l.prog) (w := w) (base := base) T C__law_fits F__law_rule_met (PySem.W.mg_of X G a__law_rule_met) b__law_rule_met
  have C__law_across := ok__law_across (P := l.prog) (w := w) (base := base) T  F__law_across (PySem.W.mg_of X G a__law_across) b__law_across
  have C__law_put := ok__law_put (P := l.prog) (w := w) (base := base) T  F__law_put (PySem.W.mg_of X G a__law_put) b__law_put
  have C__law_comes := ok__law_comes (P := l.prog) (w := w) (base := base) T C__law_rule_met C__law_across C__law_put F__law_comes (PySem.W.mg_of X G a__law_comes) b__law_comes
  have C__law_kind := ok__law_kind (P := l.prog) (w := w) (base := base) T  F__law_kind (PySem.W.mg_of X G a__law_kind) b__law_kind
  have C_rule_met := ok_rule_met (P := l.prog) (w := w) (base := base) T C_look_at_come C_number_met F_rule_met (PySem.W.mg_of X G a_rule_met) b_rule_met
  have C__law_both := ok__law_both (P := l.prog) (w := w) (base := base) T C__law_kind C_rule_met C_comes F__law_both B__law_both (PySem.W.mg_of X G a__law_both) b__law_both
  exact (fn_law T C__law_pool C__law_net C__law_places C__law_text C__law_take C_comes C__law_comes C__law_both F_law).imp (sp_lawT (cm := ⟨K, clT [("NoPlace", a_NoPlace), ("NoHead", a_NoHead), ("HeadError", a_HeadError), ("NoNet", a_NoNet), ("NoRule", a_NoRule), ("NoWay", a_NoWay)], fun _ => False⟩) hlaw (fun p hp => by obtain ⟨q, h1, rfl⟩ := List.mem_map.mp hp; exact List.mem_map.mpr ⟨q, h1, rfl⟩))
end My
open PySem PySem.W PyProof.Rows
set_option maxRecDepth 100000 in
set_option maxHeartbeats 0 in
theorem PySem.Challenge.cw_everyhead_k19_no_single_heads_holds : PySem.Challenge.rw_everyhead_k19_no_single_heads.Holds := by
  w_on; o_law; k_head; (case hw => w_witness2)
  k_fill
  refine DL.walk_lawT (l := PySem.Challenge.rw_everyhead_k19_no_single_heads) (k := 10) (x := "_law_script") ["_law_both"] (by decide) rfl rfl (by decide +kernel) (fun w h Y => PySem.W.km_in_of Y) ?F
  case F =>
    intro w mg fa h KX G hmg
    refine' My.all_mk My.law_holds KX G hmg ?ag_NoPlace ?ag_NoHead ?ag_HeadError ?ag_NoNet ?ag_NoRule ?ag_NoWay ?a__law_cell_at ?l__law_cell_at ?c__law_cell_at ?k__law_cell_at ?a__law_pool ?l__law_pool ?c__law_pool ?k__law_pool ?a__law_take ?l__law_take ?c__law_take ?k__law_take ?a__law_text ?l__law_text ?c__law_text ?k__law_text ?a__law_pattern ?l__law_pattern ?c__law_pattern ?k__law_pattern ?a__law_rule ?l__law_rule ?c__law_rule ?k__law_rule ?a__law_net ?l__law_net ?c__law_net ?k__law_net ?a__law_places ?l__law_places ?c__law_places ?k__law_places ?a_is_whole ?l_is_whole ?c_is_whole ?k_is_whole ?a_is_below ?l_is_below ?c_is_below ?k_is_below ?a_is_place ?l_is_place ?c_is_place ?k_is_place ?a_look_at_place ?l_look_at_place ?c_look_at_place ?k_look_at_place ?a_is_of ?l_is_of ?c_is_of ?k_is_of ?a_is_head ?l_is_head ?c_is_head ?k_is_head ?a_look_at_come ?l_look_at_come ?c_look_at_come ?k_look_at_come ?a_fits ?l_fits ?c_fits ?k_fits ?a_is_met ?l_is_met ?c_is_met ?k_is_met ?a_number_met ?l_number_met ?c_number_met ?k_number_met ?a_other_end ?l_other_end ?c_other_end ?k_other_end ?a_put ?l_put ?c_put ?k_put ?a_led_by ?l_led_by ?c_led_by ?k_led_by ?a_all_come ?l_all_come ?c_all_come ?k_all_come ?a_comes ?l_comes ?c_comes ?k_comes ?a__law_fits ?l__law_fits ?c__law_fits ?k__law_fits ?a__law_rule_met ?l__law_rule_met ?c__law_rule_met ?k__law_rule_met ?a__law_across ?l__law_across ?c__law_across ?k__law_across ?a__law_put ?l__law_put ?c__law_put ?k__law_put ?a__law_comes ?l__law_comes ?c__law_comes ?k__law_comes ?a__law_kind ?l__law_kind ?c__law_kind ?k__law_kind ?a_rule_met ?l_rule_met ?c_rule_met ?k_rule_met ?a__law_both ?l__law_both ?c__law_both ?k__law_both ?a_law ?l_law ?c_law ?k_law ?z_len ?z_range ?z_enumerate ?z_min ?z_max ?z_isinstance ?z_int ?z_bool ?z_tuple ?z_str ?z_all ?z_zip ?z_list ?xx_NoPlace ?xk_NoPlace ?xb_NoPlace ?xt_NoPlace ?xx_NoHead ?xk_NoHead ?xb_NoHead ?xt_NoHead ?hem_NoHead_HeadError ?hem_NoPlace_HeadError ?e1_NoHead ?e2_NoHead ?e3_NoHead ?e4_NoHead ?e5_NoHead ?e6_NoHead ?e7_NoHead ?e8_NoHead ?hki_NoHead_ValueError ?e1_NoPlace ?e2_NoPlace ?e3_NoPlace ?e4_NoPlace ?e5_NoPlace ?e6_NoPlace ?e7_NoPlace ?e8_NoPlace ?hki_NoPlace_ValueError ?z_ValueError ?hka_NoHead_NoNet_NoRule_NoWay ?hka_NoPlace_NoNet_NoRule_NoWay ?hki_NoHead_NoHead ?hki_NoPlace_NoHead ?hki_NoHead_NoPlace ?hki_NoPlace_NoPlace ?v_STAR ?tb__law_both ?nt__law_both ?hcd__law_both
    (case ag_NoPlace => k_is)
    (case ag_NoHead => k_is)
    (case ag_HeadError => k_is)
    (case ag_NoNet => k_is)
    (case ag_NoRule => k_is)
    (case ag_NoWay => k_is)
    (case a__law_cell_at => k_is)
    (case l__law_cell_at => k_is)
    (case c__law_cell_at => k_is)
    (case k__law_cell_at => k_is)
    (case a__law_pool => k_is)
    (case l__law_pool => k_is)
    (case c__law_pool => k_is)
    (case k__law_pool => k_is)
    (case a__law_take => k_is)
    (case l__law_take => k_is)
    (case c__law_take => k_is)
    (case k__law_take => k_is)
    (case a__law_text => k_is)
    (case l__law_text => k_is)
    (case c__law_text => k_is)
    (case k__law_text => k_is)
    (case a__law_pattern => k_is)
    (case l__law_pattern => k_is)
    (case c__law_pattern => k_is)
    (case k__law_pattern => k_is)
    (case a__law_rule => k_is)
    (case l__law_rule => k_is)
    (case c__law_rule => k_is)
    (case k__law_rule => k_is)
    (case a__law_net => k_is)
    (case l__law_net => k_is)
    (case c__law_net => k_is)
    (case k__law_net => k_is)
    (case a__law_places => k_is)
    (case l__law_places => k_is)
    (case c__law_places => k_is)
    (case k__law_places => k_is)
    (case a_is_whole => k_is)
    (case l_is_whole => k_is)
    (case c_is_whole => k_is)
    (case k_is_whole => k_is)
    (case a_is_below => k_is)
    (case l_is_below => k_is)
    (case c_is_below => k_is)
    (case k_is_below => k_is)
    (case a_is_place => k_is)
    (case l_is_place => k_is)
    (case c_is_place => k_is)
    (case k_is_place => k_is)
    (case a_look_at_place => k_is)
    (case l_look_at_place => k_is)
    (case c_look_at_place => k_is)
    (case k_look_at_place => k_is)
    (case a_is_of => k_is)
    (case l_is_of => k_is)
    (case c_is_of => k_is)
    (case k_is_of => k_is)
    (case a_is_head => k_is)
    (case l_is_head => k_is)
    (case c_is_head => k_is)
    (case k_is_head => k_is)
    (case a_look_at_come => k_is)
    (case l_look_at_come => k_is)
    (case c_look_at_come => k_is)
    (case k_look_at_come => k_is)
    (case a_fits => k_is)
    (case l_fits => k_is)
    (case c_fits => k_is)
    (case k_fits => k_is)
    (case a_is_met => k_is)
    (case l_is_met => k_is)
    (case c_is_met => k_is)
    (case k_is_met => k_is)
    (case a_number_met => k_is)
    (case l_number_met => k_is)
    (case c_number_met => k_is)
    (case k_number_met => k_is)
    (case a_other_end => k_is)
    (case l_other_end => k_is)
    (case c_other_end => k_is)
    (case k_other_end => k_is)
    (case a_put => k_is)
    (case l_put => k_is)
    (case c_put => k_is)
    (case k_put => k_is)
    (case a_led_by => k_is)
    (case l_led_by => k_is)
    (case c_led_by => k_is)
    (case k_led_by => k_is)
    (case a_all_come => k_is)
    (case l_all_come => k_is)
    (case c_all_come => k_is)
    (case k_all_come => k_is)
    (case a_comes => k_is)
    (case l_comes => k_is)
    (case c_comes => k_is)
    (case k_comes => k_is)
    (case a__law_fits => k_is)
    (case l__law_fits => k_is)
    (case c__law_fits => k_is)
    (case k__law_fits => k_is)
    (case a__law_rule_met => k_is)
    (case l__law_rule_met => k_is)
    (case c__law_rule_met => k_is)
    (case k__law_rule_met => k_is)
    (case a__law_across => k_is)
    (case l__law_across => k_is)
    (case c__law_across => k_is)
    (case k__law_across => k_is)
    (case a__law_put => k_is)
    (case l__law_put => k_is)
    (case c__law_put => k_is)
    (case k__law_put => k_is)
    (case a__law_comes => k_is)
    (case l__law_comes => k_is)
    (case c__law_comes => k_is)
    (case k__law_comes => k_is)
    (case a__law_kind => k_is)
    (case l__law_kind => k_is)
    (case c__law_kind => k_is)
    (case k__law_kind => k_is)
    (case a_rule_met => k_is)
    (case l_rule_met => k_is)
    (case c_rule_met => k_is)
    (case k_rule_met => k_is)
    (case a__law_both => k_is)
    (case l__law_both => k_is)
    (case c__law_both => k_is)
    (case k__law_both => k_is)
    (case a_law => k_is)
    (case l_law => k_is)
    (case c_law => k_is)
    (case k_law => k_is)
    (case z_len => k_is)
    (case z_range => k_is)
    (case z_enumerate => k_is)
    (case z_min => k_is)
    (case z_max => k_is)
    (case z_isinstance => k_is)
    (case z_int => k_is)
    (case z_bool => k_is)
    (case z_tuple => k_is)
    (case z_str => k_is)
    (case z_all => k_is)
    (case z_zip => k_is)
    (case z_list => k_is)
    (case xx_NoPlace => k_exc)
    (case xk_NoPlace => first | k_is | rfl | decide +kernel)
    (case xb_NoPlace => first | k_is | rfl | decide +kernel)
    (case xt_NoPlace => first | k_is | rfl | decide +kernel)
    (case xx_NoHead => k_exc)
    (case xk_NoHead => first | k_is | rfl | decide +kernel)
    (case xb_NoHead => first | k_is | rfl | decide +kernel)
    (case xt_NoHead => first | k_is | rfl | decide +kernel)
    (case hem_NoHead_HeadError => first | k_is | rfl | decide +kernel)
    (case hem_NoPlace_HeadError => first | k_is | rfl | decide +kernel)
    (case e1_NoHead => first | k_is | rfl | decide +kernel)
    (case e2_NoHead => first | k_is | rfl | decide +kernel)
    (case e3_NoHead => first | k_is | rfl | decide +kernel)
    (case e4_NoHead => first | k_is | rfl | decide +kernel)
    (case e5_NoHead => first | k_is | rfl | decide +kernel)
    (case e6_NoHead => first | k_is | rfl | decide +kernel)
    (case e7_NoHead => first | k_is | rfl | decide +kernel)
    (case e8_NoHead => first | k_is | rfl | decide +kernel)
    (case hki_NoHead_ValueError => first | k_is | rfl | decide +kernel)
    (case e1_NoPlace => first | k_is | rfl | decide +kernel)
    (case e2_NoPlace => first | k_is | rfl | decide +kernel)
    (case e3_NoPlace => first | k_is | rfl | decide +kernel)
    (case e4_NoPlace => first | k_is | rfl | decide +kernel)
    (case e5_NoPlace => first | k_is | rfl | decide +kernel)
    (case e6_NoPlace => first | k_is | rfl | decide +kernel)
    (case e7_NoPlace => first | k_is | rfl | decide +kernel)
    (case e8_NoPlace => first | k_is | rfl | decide +kernel)
    (case hki_NoPlace_ValueError => first | k_is | rfl | decide +kernel)
    (case z_ValueError => k_is)
    (case hka_NoHead_NoNet_NoRule_NoWay => first | k_is | rfl | decide +kernel)
    (case hka_NoPlace_NoNet_NoRule_NoWay => first | k_is | rfl | decide +kernel)
    (case hki_NoHead_NoHead => first | k_is | rfl | decide +kernel)
    (case hki_NoPlace_NoHead => first | k_is | rfl | decide +kernel)
    (case hki_NoHead_NoPlace => first | k_is | rfl | decide +kernel)
    (case hki_NoPlace_NoPlace => first | k_is | rfl | decide +kernel)
    (case v_STAR => k_is)
    (case tb__law_both => first | k_is | rfl | decide +kernel)
    (case nt__law_both => first | k_is | rfl | decide +kernel)
    (case hcd__law_both => first | k_is | rfl | decide +kernel)
#print axioms PySem.Challenge.cw_everyhead_k19_no_single_heads_holds

