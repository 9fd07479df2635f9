import PyProof.Rows.All
import Wide.All
import OpenK.AllK
import Wide.FinOn
import PySem.Challenge.RW_humphollow_k02_ranks
import KE.KStateDown
import HandS.Base
import HandS.Call
import HandS.List
import HandS.Dict
import HandS.Text
import HandS.Wide
import HandS.Exc
import HandS.Words
import HandS.WordsExc
import HandS.Defaults
import HandS.CallSlots
import HandS.SortInts
import HandS.Style
import HandS.IsInst
import HandS.WordsDict
import KE.KSortedM
import HandS.Set
import HandS.SetFor
import HandS.Strs
import HandS.Comp
import HandS.Iter
import HandS.ExcOwn
import HandS.Conv
import HandS.Ends
import HandS.More
import HandS.Head0
import HandS.Head1
import HandS.Head2
import HandS.HeadEnd
import HandS.HeadHook1
import HandS.HeadHook2
import HandS.HeadHook4
import HandS.HeadWalk
import HandS.EndTab
section
set_option Elab.async false
set_option linter.all false
set_option maxRecDepth 100000
/-! Trees of Python data with marks of ownership, and what it means that a value in the abstract heap is such a tree. -/
namespace Hm
open PySem PySem.Spec PyProof.Rows L2

/-- a Python value as a tree; the mark of a node: true: nobody else holds it -/
inductive D where
  | non | bl (b : Bool) | int (i : Int) | str (s : Str)
  | lst (o : Bool) (xs : List D)
  | tup (o : Bool) (xs : List D)
  | dK (o : Bool) (ks : List Key) (vs : List D)
  | dT (o : Bool) (ks : List (List Key)) (vs : List D)
  | obj (o : Bool) (c : Str) (fs : List Str) (vs : List D)
  | scr (ns : List Int)
  deriving Inhabited

mutual
/-- all marks taken away -/
def D.clr : D → D
  | .non => .non
  | .bl b => .bl b
  | .int i => .int i
  | .str s => .str s
  | .lst _ xs => .lst false (clrs xs)
  | .tup _ xs => .tup false (clrs xs)
  | .dK _ ks vs => .dK false ks (clrs vs)
  | .dT _ ks vs => .dT false ks (clrs vs)
  | .obj _ c fs vs => .obj false c fs (clrs vs)
  | .scr ns => .scr ns
def clrs : List D → List D
  | [] => []
  | d :: r => d.clr :: clrs r
end
mutual
/-- no mark -/
def D.isC : D → Bool
  | .non => true
  | .bl _ => true
  | .int _ => true
  | .str _ => true
  | .lst o xs => !o && isCs xs
  | .tup o xs => !o && isCs xs
  | .dK o _ vs => !o && isCs vs
  | .dT o _ vs => !o && isCs vs
  | .obj o _ _ vs => !o && isCs vs
  | .scr _ => true
def isCs : List D → Bool
  | [] => true
  | d :: r => d.isC && isCs r
end
mutual
theorem D.clr_isC : ∀ d : D, d.clr.isC = true
  | .non => rfl
  | .bl _ => rfl
  | .int _ => rfl
  | .str _ => rfl
  | .lst _ xs => by simp only [D.clr, D.isC, clrs_isC xs]; rfl
  | .tup _ xs => by simp only [D.clr, D.isC, clrs_isC xs]; rfl
  | .dK _ _ xs => by simp only [D.clr, D.isC, clrs_isC xs]; rfl
  | .dT _ _ xs => by simp only [D.clr, D.isC, clrs_isC xs]; rfl
  | .obj _ _ _ xs => by simp only [D.clr, D.isC, clrs_isC xs]; rfl
  | .scr _ => rfl
theorem clrs_isC : ∀ xs : List D, isCs (clrs xs) = true
  | [] => rfl
  | d :: r => by simp only [clrs, isCs, D.clr_isC d, clrs_isC r]; rfl
end
mutual
theorem D.clr_of : ∀ d : D, d.isC = true → d.clr = d
  | .non, _ => rfl
  | .bl _, _ => rfl
  | .int _, _ => rfl
  | .str _, _ => rfl
  | .lst o xs, h => by
    simp only [D.isC, Bool.and_eq_true, Bool.not_eq_true'] at h
    rw [D.clr, clrs_of xs h.2, h.1]
  | .tup o xs, h => by
    simp only [D.isC, Bool.and_eq_true, Bool.not_eq_true'] at h
    rw [D.clr, clrs_of xs h.2, h.1]
  | .dK o _ xs, h => by
    simp only [D.isC, Bool.and_eq_true, Bool.not_eq_true'] at h
    rw [D.clr, clrs_of xs h.2, h.1]
  | .dT o _ xs, h => by
    simp only [D.isC, Bool.and_eq_true, Bool.not_eq_true'] at h
    rw [D.clr, clrs_of xs h.2, h.1]
  | .obj o _ _ xs, h => by
    simp only [D.isC, Bool.and_eq_true, Bool.not_eq_true'] at h
    rw [D.clr, clrs_of xs h.2, h.1]
  | .scr _, _ => rfl
theorem clrs_of : ∀ xs : List D, isCs xs = true → clrs xs = xs
  | [], _ => rfl
  | d :: r, h => by
    simp only [isCs, Bool.and_eq_true] at h
    rw [clrs, D.clr_of d h.1, clrs_of r h.2]
end
theorem clrs_map (xs : List D) : clrs xs = xs.map D.clr := by
  induction xs with
  | nil => rfl
  | cons d r ih => rw [clrs, ih]; rfl
theorem isCs_all (xs : List D) : isCs xs = xs.all D.isC := by
  induction xs with
  | nil => rfl
  | cons d r ih => rw [isCs, ih]; rfl
theorem clrs_length (xs : List D) : (clrs xs).length = xs.length := by rw [clrs_map, List.length_map]

/-! ### a list, a tuple of the written part -/
def WrL (K : PySem.W.Frag) (a : Addr) (xs : List V) : Prop :=
  ∃ (o : Obj) (its : Array Value) (n : Nat), K.lookup a = some o ∧ o.cls = .type "list" ∧ o.dict = none ∧ o.data = .seq its n ∧ its.size ≤ sizeLine ∧ Vals xs its.toList
def WrT (K : PySem.W.Frag) (a : Addr) (xs : List V) : Prop :=
  ∃ (o : Obj) (its : Array Value) (n : Nat), K.lookup a = some o ∧ o.cls = .type "tuple" ∧ o.data = .seq its n ∧ its.size ≤ sizeLine ∧ Vals xs its.toList

abbrev Own := Addr → Prop
/-- what one class's name stands for -/
abbrev CA := Str → Addr

section
variable (K : PySem.W.Frag) (ca : CA) (S : Own) (H : Hp)
mutual
/-- the value v is the tree d in the heap H; A: the addresses of its marked nodes; the others stand in S -/
inductive Rep : V → D → List Addr → Prop
  | non : Rep .non .non []
  | bl (b : Bool) : Rep (.bl b) (.bl b) []
  | int (i : Int) : Rep (.int i) (.int i) []
  | str (s : Str) : Rep (.str s) (.str s) []
  | scrS {a ns} : S a → Rd H a (.lst (ns.map V.int)) → Rep (.ref a) (.scr ns) []
  | scrW {a ns} : WrL K a (ns.map V.int) → Rep (.ref a) (.scr ns) []
  | lstS {a vs xs} : S a → H a = some (.lst vs) → Reps vs xs [] → Rep (.ref a) (.lst false xs) []
  | lstO {a vs xs A} : H a = some (.lst vs) → Reps vs xs A → Rep (.ref a) (.lst true xs) (a :: A)
  | tupS {a vs xs} : S a → H a = some (.tup vs) → Reps vs xs [] → Rep (.ref a) (.tup false xs) []
  | tupW {a vs xs} : WrT K a vs → Reps vs xs [] → Rep (.ref a) (.tup false xs) []
  | tupO {a vs xs A} : H a = some (.tup vs) → Reps vs xs A → Rep (.ref a) (.tup true xs) (a :: A)
  | dKS {a kvs ks vs ds} : S a → H a = some (.dK kvs) → kvs.map (·.1) = ks → kvs.map (·.2) = vs → Reps vs ds [] → Rep (.ref a) (.dK false ks ds) []
  | dKO {a kvs ks vs ds A} : H a = some (.dK kvs) → kvs.map (·.1) = ks → kvs.map (·.2) = vs → Reps vs ds A → Rep (.ref a) (.dK true ks ds) (a :: A)
  | dTS {a kvs ks vs ds} : S a → H a = some (.dT kvs) → kvs.map (·.1) = ks → kvs.map (·.2) = vs → Reps vs ds [] → Rep (.ref a) (.dT false ks ds) []
  | dTO {a kvs ks vs ds A} : H a = some (.dT kvs) → kvs.map (·.1) = ks → kvs.map (·.2) = vs → Reps vs ds A → Rep (.ref a) (.dT true ks ds) (a :: A)
  | objS {a c dx fvs fs vs ds} : S a → H a = some (.ins (ca c) dx fvs) → fvs.map (·.1) = fs → fvs.map (·.2) = vs → Reps vs ds [] → Rep (.ref a) (.obj false c fs ds) []
  | objO {a c dx fvs fs vs ds A} : H a = some (.ins (ca c) dx fvs) → fvs.map (·.1) = fs → fvs.map (·.2) = vs → Reps vs ds A → Rep (.ref a) (.obj true c fs ds) (a :: A)
inductive Reps : List V → List D → List Addr → Prop
  | nil : Reps [] [] []
  | cons {v vs d ds A B} : Rep v d A → Reps vs ds B → Reps (v :: vs) (d :: ds) (A ++ B)
end
end

section
variable {K : PySem.W.Frag} {ca : CA} {S S' : Own} {H H' : Hp}
theorem rd_same {a : Addr} {u : HO} (r : Rd H a u) (h : H' a = H a) : Rd H' a u := by
  rcases r with r | ⟨o, r⟩
  · exact .inl (h.trans r)
  · exact .inr ⟨o, h.trans r⟩
theorem sql_same {a : Addr} {xs : List V} (r : SqL K H a xs) (h : H' a = H a) : SqL K H' a xs := r.imp (fun r => rd_same r h) id
mutual
/-- a tree stands on where its nodes stand on -/
theorem Rep.frame (hs : ∀ a, S a → S' a) (hh : ∀ a, S a → H' a = H a) : ∀ {v d A}, Rep K ca S H v d A → (∀ a ∈ A, H' a = H a) → Rep K ca S' H' v d A
  | _, _, _, .non, _ => .non
  | _, _, _, .bl b, _ => .bl b
  | _, _, _, .int b, _ => .int b
  | _, _, _, .str b, _ => .str b
  | _, _, _, .scrS s r, _ => .scrS (hs _ s) (rd_same r (hh _ s))
  | _, _, _, .scrW r, _ => .scrW r
  | _, _, _, .lstS s r q, _ => .lstS (hs _ s) ((hh _ s).trans r) (Reps.frame hs hh q (fun _ h => nomatch h))
  | _, _, _, .lstO r q, hA => .lstO ((hA _ List.mem_cons_self).trans r) (Reps.frame hs hh q fun b hb => hA b (List.mem_cons_of_mem _ hb))
  | _, _, _, .tupS s r q, _ => .tupS (hs _ s) ((hh _ s).trans r) (Reps.frame hs hh q (fun _ h => nomatch h))
  | _, _, _, .tupW r q, _ => .tupW r (Reps.frame hs hh q (fun _ h => nomatch h))
  | _, _, _, .tupO r q, hA => .tupO ((hA _ List.mem_cons_self).trans r) (Reps.frame hs hh q fun b hb => hA b (List.mem_cons_of_mem _ hb))
  | _, _, _, .dKS s r e1 e2 q, _ => .dKS (hs _ s) ((hh _ s).trans r) e1 e2 (Reps.frame hs hh q (fun _ h => nomatch h))
  | _, _, _, .dKO r e1 e2 q, hA => .dKO ((hA _ List.mem_cons_self).trans r) e1 e2 (Reps.frame hs hh q fun b hb => hA b (List.mem_cons_of_mem _ hb))
  | _, _, _, .dTS s r e1 e2 q, _ => .dTS (hs _ s) ((hh _ s).trans r) e1 e2 (Reps.frame hs hh q (fun _ h => nomatch h))
  | _, _, _, .dTO r e1 e2 q, hA => .dTO ((hA _ List.mem_cons_self).trans r) e1 e2 (Reps.frame hs hh q fun b hb => hA b (List.mem_cons_of_mem _ hb))
  | _, _, _, .objS s r e1 e2 q, _ => .objS (hs _ s) ((hh _ s).trans r) e1 e2 (Reps.frame hs hh q (fun _ h => nomatch h))
  | _, _, _, .objO r e1 e2 q, hA => .objO ((hA _ List.mem_cons_self).trans r) e1 e2 (Reps.frame hs hh q fun b hb => hA b (List.mem_cons_of_mem _ hb))
theorem Reps.frame (hs : ∀ a, S a → S' a) (hh : ∀ a, S a → H' a = H a) : ∀ {v d A}, Reps K ca S H v d A → (∀ a ∈ A, H' a = H a) → Reps K ca S' H' v d A
  | _, _, _, .nil, _ => .nil
  | _, _, _, .cons p q, hA => .cons (Rep.frame hs hh p fun b hb => hA b (List.mem_append_left _ hb)) (Reps.frame hs hh q fun b hb => hA b (List.mem_append_right _ hb))
end
mutual
/-- the marked nodes made common -/
theorem Rep.share (hs : ∀ a, S a → S' a) : ∀ {v d A}, Rep K ca S H v d A → (∀ a ∈ A, S' a) → Rep K ca S' H v d.clr []
  | _, _, _, .non, _ => .non
  | _, _, _, .bl b, _ => .bl b
  | _, _, _, .int b, _ => .int b
  | _, _, _, .str b, _ => .str b
  | _, _, _, .scrS s r, _ => .scrS (hs _ s) r
  | _, _, _, .scrW r, _ => .scrW r
  | _, _, _, .lstS s r q, _ => .lstS (hs _ s) r (Reps.share hs q (fun _ h => nomatch h))
  | _, _, _, .lstO r q, hA => .lstS (hA _ List.mem_cons_self) r (Reps.share hs q fun b hb => hA b (List.mem_cons_of_mem _ hb))
  | _, _, _, .tupS s r q, _ => .tupS (hs _ s) r (Reps.share hs q (fun _ h => nomatch h))
  | _, _, _, .tupW r q, _ => .tupW r (Reps.share hs q (fun _ h => nomatch h))
  | _, _, _, .tupO r q, hA => .tupS (hA _ List.mem_cons_self) r (Reps.share hs q fun b hb => hA b (List.mem_cons_of_mem _ hb))
  | _, _, _, .dKS s r e1 e2 q, _ => .dKS (hs _ s) r e1 e2 (Reps.share hs q (fun _ h => nomatch h))
  | _, _, _, .dKO r e1 e2 q, hA => .dKS (hA _ List.mem_cons_self) r e1 e2 (Reps.share hs q fun b hb => hA b (List.mem_cons_of_mem _ hb))
  | _, _, _, .dTS s r e1 e2 q, _ => .dTS (hs _ s) r e1 e2 (Reps.share hs q (fun _ h => nomatch h))
  | _, _, _, .dTO r e1 e2 q, hA => .dTS (hA _ List.mem_cons_self) r e1 e2 (Reps.share hs q fun b hb => hA b (List.mem_cons_of_mem _ hb))
  | _, _, _, .objS s r e1 e2 q, _ => .objS (hs _ s) r e1 e2 (Reps.share hs q (fun _ h => nomatch h))
  | _, _, _, .objO r e1 e2 q, hA => .objS (hA _ List.mem_cons_self) r e1 e2 (Reps.share hs q fun b hb => hA b (List.mem_cons_of_mem _ hb))
theorem Reps.share (hs : ∀ a, S a → S' a) : ∀ {v d A}, Reps K ca S H v d A → (∀ a ∈ A, S' a) → Reps K ca S' H v (clrs d) []
  | _, _, _, .nil, _ => .nil
  | _, _, _, .cons p q, hA => by
    have h := Reps.cons (Rep.share hs p fun b hb => hA b (List.mem_append_left _ hb)) (Reps.share hs q fun b hb => hA b (List.mem_append_right _ hb))
    exact h
end
mutual
/-- without a mark nothing is held alone -/
theorem Rep.nil_of : ∀ {v d A}, Rep K ca S H v d A → d.isC = true → A = []
  | _, _, _, .non, _ => rfl
  | _, _, _, .bl b, _ => rfl
  | _, _, _, .int b, _ => rfl
  | _, _, _, .str b, _ => rfl
  | _, _, _, .scrS .., _ => rfl
  | _, _, _, .scrW .., _ => rfl
  | _, _, _, .lstS .., _ => rfl
  | _, _, _, .lstO .., h => by simp [D.isC] at h
  | _, _, _, .tupS .., _ => rfl
  | _, _, _, .tupW .., _ => rfl
  | _, _, _, .tupO .., h => by simp [D.isC] at h
  | _, _, _, .dKS .., _ => rfl
  | _, _, _, .dKO .., h => by simp [D.isC] at h
  | _, _, _, .dTS .., _ => rfl
  | _, _, _, .dTO .., h => by simp [D.isC] at h
  | _, _, _, .objS .., _ => rfl
  | _, _, _, .objO .., h => by simp [D.isC] at h
theorem Reps.nil_of : ∀ {v d A}, Reps K ca S H v d A → isCs d = true → A = []
  | _, _, _, .nil, _ => rfl
  | _, _, _, .cons p q, h => by
    simp only [isCs, Bool.and_eq_true] at h
    rw [Rep.nil_of p h.1, Reps.nil_of q h.2]; rfl
end
theorem Reps.length : ∀ {vs : List V} {ds : List D} {A : List Addr}, Reps K ca S H vs ds A → vs.length = ds.length
  | _, _, _, .nil => rfl
  | _, _, _, .cons _ q => by simp [q.length]
theorem Reps.append : ∀ {vs ds A ws es B}, Reps K ca S H vs ds A → Reps K ca S H ws es B → Reps K ca S H (vs ++ ws) (ds ++ es) (A ++ B)
  | _, _, _, _, _, _, .nil, q => q
  | _, _, _, _, _, _, .cons p r, q => by
    rw [List.append_assoc]
    exact .cons p (r.append q)
theorem Reps.one {v d A} (r : Rep K ca S H v d A) : Reps K ca S H [v] [d] A := by
  have h := Reps.cons r Reps.nil
  rwa [List.append_nil] at h
end
end Hm
end
section
set_option Elab.async false
set_option linter.all false
set_option maxRecDepth 100000
/-! The small language, and what a text of it does to trees. -/
namespace Hm
open PySem PySem.Spec PyProof.Rows L2

abbrev Ev := List (Option D)
/-- an exception of one's own: its class, its fields -/
structure Xn where
  c : Str
  fs : List Str
  vs : List D
  deriving Inhabited
/-- an expression's end: a value (lo: it may be held by a name yet), an exception, or no rule of ours -/
inductive R (α : Type) where
  | ok (a : α) (ρ : Ev)
  | ex (x : Xn) (ρ : Ev)
  | bad
  deriving Inhabited
def R.bnd {α β : Type} (r : R α) (k : α → Ev → R β) : R β := match r with
  | .ok a ρ => k a ρ
  | .ex x ρ => .ex x ρ
  | .bad => .bad
@[simp] theorem R.bnd_ok {α β : Type} (a : α) (ρ : Ev) (k : α → Ev → R β) : (R.ok a ρ).bnd k = k a ρ := rfl
@[simp] theorem R.bnd_ex {α β : Type} (x : Xn) (ρ : Ev) (k : α → Ev → R β) : (R.ex x ρ).bnd k = .ex x ρ := rfl
@[simp] theorem R.bnd_bad {α β : Type} (k : α → Ev → R β) : (R.bad : R α).bnd k = .bad := rfl
def R.opt {α : Type} (o : Option α) (ρ : Ev) : R α := match o with
  | some a => .ok a ρ
  | none => .bad
@[simp] theorem R.opt_some {α : Type} (a : α) (ρ : Ev) : R.opt (some a) ρ = .ok a ρ := rfl
@[simp] theorem R.opt_none {α : Type} (ρ : Ev) : R.opt (none : Option α) ρ = .bad := rfl

/-- a call's end: the value and what is left at the parameters that the callee may change; an exception; no rule -/
inductive CR where
  | ok (d : D) (fin : List (Option D))
  | ex (x : Xn)
  | bad
  deriving Inhabited
/-- what the defs do: number, arguments -/
abbrev Orc := Nat → List D → CR

/-! ### operations on trees -/
/-! to a tree of the library's own, for == -/
mutual
def D.py : D → Option PyData
  | .non => some .none
  | .bl b => some (.bool b)
  | .int i => some (.int i)
  | .str s => some (.str s)
  | .lst _ xs => (pysF xs).map .list
  | .tup _ xs => (pysF xs).map .tuple
  | _ => none
def pysF : List D → Option (List PyData)
  | [] => some []
  | d :: r => match d.py, pysF r with
    | some a, some l => some (a :: l)
    | _, _ => none
end
/-- == -/
def eqD (a b : D) : Option Bool := match a, b with
  | .int i, .int j => some (decide (i = j))
  | .str i, .str j => some (decide (i = j))
  | .bl i, .bl j => some (decide (i = j))
  | a, b => match a.py, b.py with
    | some x, some y => if SeqAt.shaped x = true ∧ SeqAt.shaped y = true then some (PyData.eqv x y) else none
    | _, _ => none
def D.flat : D → Bool
  | .non => true
  | .bl _ => true
  | .int _ => true
  | .str _ => true
  | _ => false
/-- == of flat values -/
def eqF : D → D → Bool
  | .non, .non => true
  | .bl a, .bl b => a == b
  | .bl a, .int b => (if a then 1 else 0) == b
  | .int a, .bl b => a == (if b then 1 else 0)
  | .int a, .int b => a == b
  | .str a, .str b => a == b
  | _, _ => false
def D.key : D → Option Key
  | .int i => some (.inl i)
  | .str s => some (.inr s)
  | _ => none
def D.items : D → Option (List D)
  | .lst _ xs => some xs
  | .tup _ xs => some xs
  | _ => none
/-- what a walk over it gives -/
def D.iter : D → Option (List D)
  | .str s => some (s.cps.toList.map fun c => .str ⟨#[c]⟩)
  | d => d.items
def lookK : List Key → List D → Key → Option D
  | k :: ks, d :: ds, q => if k = q then some d else lookK ks ds q
  | _, _, _ => none
def inK (ks : List Key) (q : Key) : Bool := ks.any fun k => decide (k = q)
/-- x in y -/
def inD (x y : D) : Option Bool := match y with
  | .lst _ xs => if x.flat = true ∧ xs.all D.flat = true then some (xs.any fun y => eqF y x) else none
  | .tup _ xs => if x.flat = true ∧ xs.all D.flat = true then some (xs.any fun y => eqF y x) else none
  | .dK _ ks _ => x.key.map (inK ks)
  | .str s => match x with
    | .str z => some (!(Builtin.Str.occurrences s z 0 s.length 1).isEmpty)
    | _ => none
  | _ => none
/-- the built-in kinds that isinstance asks for -/
inductive Ty where
  | int | bool | str | list | tuple | dict | own (c : Str)
  deriving DecidableEq
def D.isi : D → Ty → Option Bool
  | .non, .own _ => none
  | .non, _ => some false
  | .bl _, .int => some true
  | .bl _, .bool => some true
  | .bl _, .own _ => none
  | .bl _, _ => some false
  | .int _, .int => some true
  | .int _, .own _ => none
  | .int _, _ => some false
  | .str _, .str => some true
  | .str _, .own _ => none
  | .str _, _ => some false
  | .lst _ _, .list => some true
  | .lst _ _, .own _ => none
  | .lst _ _, _ => some false
  | .tup _ _, .tuple => some true
  | .tup _ _, .own _ => none
  | .tup _ _, _ => some false
  | .dK _ _ _, .dict => some true
  | .dK _ _ _, .own _ => none
  | .dK _ _ _, _ => some false
  | _, _ => none
/-- an operation of two values whose answer is flat -/
inductive B2 where
  | add | sub | mul | fdiv | mod | pow | eq | ne | lt | le | gt | ge | in_ | nin | isN | notN | min2 | max2
  deriving DecidableEq
def ariD (c : Int → Int → Bool) (f : Int → Int → Int) : D → D → Option D
  | .int i, .int j => if c i j = true then some (.int (f i j)) else none
  | _, _ => none
def cmpD (f : Int → Int → Bool) : D → D → Option D
  | .int i, .int j => some (.bl (f i j))
  | _, _ => none
def addD : D → D → Option D
  | .int i, .int j => some (.int (i + j))
  | .str a, .str b => if a.length + b.length ≤ sizeLine then some (.str (a ++ b)) else none
  | .lst _ xs, .lst _ ys => if isCs xs = true ∧ isCs ys = true ∧ xs.length + ys.length ≤ sizeLine then some (.lst true (xs ++ ys)) else none
  | _, _ => none
/-- s * k -/
def repS (s : Str) (k : Int) : Str := if k < 1 then Str.empty else if (k == 1 || s.length == 0) = true then s else ⟨(List.replicate k.toNat s.cps).foldl (· ++ ·) #[]⟩
def mulD : D → D → Option D
  | .str s, .int k => if (-(2 ^ 63) ≤ k ∧ k < 2 ^ 63) ∧ s.length * k.toNat ≤ sizeLine then some (.str (repS s k)) else none
  | .int i, .int j => if (-(2 ^ 64) < i ∧ i < 2 ^ 64) ∨ (-(2 ^ 64) < j ∧ j < 2 ^ 64) then some (.int (i * j)) else none
  | .lst _ xs, .int k => if isCs xs = true ∧ (-(2 ^ 63) ≤ k ∧ k < 2 ^ 63) ∧ xs.length * k.toNat ≤ sizeLine then some (.lst true (List.replicate k.toNat xs).flatten) else none
  | _, _ => none
def ltD : D → D → Option D
  | .int i, .int j => some (.bl (decide (i < j)))
  | .str i, .str j => some (.bl (decide (i.cps.toList < j.cps.toList)))
  | _, _ => none
def D.isNon : D → Bool
  | .non => true
  | _ => false
def isND (n : Bool) : D → D → Option D
  | a, .non => some (.bl (a.isNon != n))
  | _, _ => none
def B2.go : B2 → D → D → Option D
  | .add => addD
  | .sub => ariD (fun _ _ => true) fun i j => i - j
  | .mul => mulD
  | .fdiv => ariD (fun _ j => decide (j ≠ 0 ∧ j.natAbs < 1073741824)) fun i j => i.fdiv j
  | .mod => ariD (fun _ j => decide (j ≠ 0)) fun i j => i.fmod j
  | .pow => ariD (fun i j => decide (0 ≤ j ∧ j ≤ 1000000 ∧ i.natAbs < 2 ^ 64)) fun i j => i ^ j.toNat
  | .eq => fun a b => (eqD a b).map .bl
  | .ne => fun a b => (eqD a b).map fun k => .bl (!k)
  | .lt => ltD
  | .le => cmpD fun i j => decide (i ≤ j)
  | .gt => cmpD fun i j => decide (j < i)
  | .ge => cmpD fun i j => decide (j ≤ i)
  | .in_ => fun a b => (inD a b).map .bl
  | .nin => fun a b => (inD a b).map fun k => .bl (!k)
  | .isN => isND false
  | .notN => isND true
  | .min2 => ariD (fun _ _ => true) fun i j => if j < i then j else i
  | .max2 => ariD (fun _ _ => true) fun i j => if j > i then j else i
/-- an operation of one value -/
inductive U1 where
  | neg | len | abs | int | str | list | tuple | sorted | sortedSet | sum | min | max | any | all | rev | isi (ts : List Ty)
  deriving DecidableEq
def intsOf : List D → Option (List Int)
  | [] => some []
  | .int i :: r => (intsOf r).map (i :: ·)
  | _ :: _ => none
def strsOf : List D → Option (List Str)
  | [] => some []
  | .str i :: r => (strsOf r).map (i :: ·)
  | _ :: _ => none
def blsOf : List D → Option (List Bool)
  | [] => some []
  | .bl i :: r => (blsOf r).map (i :: ·)
  | _ :: _ => none
/-- the greatest, the least of ints -/
def maxI : List Int → Int
  | [] => 0
  | [a] => a
  | a :: r => if a < maxI r then maxI r else a
def minI : List Int → Int
  | [] => 0
  | [a] => a
  | a :: r => if minI r < a then minI r else a
/-- the ints, sorted -/
def srtI (ns : List Int) : List Int := ns.mergeSort fun a b => decide (a ≤ b)
/-- different ones, sorted -/
def dedI : List Int → List Int
  | [] => []
  | [a] => [a]
  | a :: b :: r => if a = b then dedI (b :: r) else a :: dedI (b :: r)
def lenD : D → Option D
  | .str s => if s.length ≤ sizeLine then some (.int s.length) else none
  | .lst _ xs => some (.int xs.length)
  | .tup _ xs => some (.int xs.length)
  | .dK _ ks _ => some (.int ks.length)
  | _ => none
def intU (f : Int → Option D) : D → Option D
  | .int i => f i
  | _ => none
def intD : D → Option D
  | .int i => some (.int i)
  | .bl k => some (.int (if k then 1 else 0))
  | _ => none
def listD : D → Option D
  | .lst _ xs => if isCs xs = true then some (.lst true xs) else none
  | .tup _ xs => if isCs xs = true then some (.lst true xs) else none
  | _ => none
def tupleD : D → Option D
  | .lst _ xs => if isCs xs = true then some (.tup false xs) else none
  | .tup false xs => if isCs xs = true then some (.tup false xs) else none
  | _ => none
def seqI (f : List Int → Option D) : D → Option D
  | .lst _ xs => match intsOf xs with
    | some ns => f ns
    | none => none
  | _ => none
def seqB (f : List Bool → D) : D → Option D
  | .lst _ xs => match blsOf xs with
    | some ns => some (f ns)
    | none => none
  | _ => none
def revD : D → Option D
  | .lst _ xs => if isCs xs = true then some (.lst true xs.reverse) else none
  | _ => none
def isiD : List Ty → D → Option Bool
  | [], _ => some false
  | t :: ts, d => match d.isi t, isiD ts d with
    | some a, some b => some (a || b)
    | _, _ => none
def U1.go : U1 → D → Option D
  | .neg => intU fun i => some (.int (-i))
  | .len => lenD
  | .abs => intU fun i => some (.int (if i < 0 then -i else i))
  | .int => intD
  | .str => intU fun i => if i.natAbs.log2 < 1920 then some (.str (toString i)) else none
  | .list => listD
  | .tuple => tupleD
  | .sorted => seqI fun ns => some (.lst true ((srtI ns).map .int))
  | .sortedSet => seqI fun ns => if ns.length + 1 < scanBound then some (.lst true ((dedI (srtI ns)).map .int)) else none
  | .sum => seqI fun ns => some (.int ns.sum)
  | .min => seqI fun ns => if ns.isEmpty = true then none else some (.int (minI ns))
  | .max => seqI fun ns => if ns.isEmpty = true then none else some (.int (maxI ns))
  | .any => seqB fun bs => .bl (bs.any id)
  | .all => seqB fun bs => .bl (bs.all id)
  | .rev => revD
  | .isi ts => fun d => (isiD ts d).map .bl
/-- x[i] -/
def ixD : D → D → Option D
  | .lst _ xs, .int i => atI xs i
  | .tup _ xs, .int i => atI xs i
  | .str s, .int i => if s.length ≤ sizeLine then (atI s.cps.toList i).map fun c => .str ⟨#[c]⟩ else none
  | .dK _ ks vs, k => match k.key with
    | some q => lookK ks vs q
    | none => none
  | _, _ => none
/-- a slice's items -/
def cutD (xs : List D) (lo hi : Option Int) : List D := (xs.drop (HT.sIx xs.length 0 lo)).take (HT.sIx xs.length xs.length hi - HT.sIx xs.length 0 lo)
def slD : D → Option Int → Option Int → Option D
  | .lst _ xs, lo, hi => if isCs xs = true then some (.lst true (cutD xs lo hi)) else none
  | .str s, lo, hi => if s.length ≤ sizeLine then some (.str (cutS s lo hi)) else none
  | _, _, _ => none
/-- truth -/
def truD : D → Option Bool
  | .non => some false
  | .bl b => some b
  | .int i => some (i != 0)
  | .str y => if y.length ≤ sizeLine then some ((y.length : Int) != 0) else none
  | .lst _ xs => some (!xs.isEmpty)
  | .tup _ xs => some (!xs.isEmpty)
  | .dK _ ks _ => some (!ks.isEmpty)
  | _ => none
/-- a constant -/
inductive Cn where
  | non | bl (b : Bool) | int (i : Int) | str (s : Str)
  deriving DecidableEq
def Cn.d : Cn → D
  | .non => .non
  | .bl b => .bl b
  | .int i => .int i
  | .str s => .str s

/-! ### the language -/
mutual
inductive E where
  | c (k : Cn)                    -- a constant
  | g (x : Str) (k : Cn)          -- a module's constant
  | v (i : Nat)                   -- a name
  | mv (i : Nat)                  -- a name that is not asked again
  | u (o : U1) (a : E)
  | b (o : B2) (x y : E)
  | ix (x y : E)
  | sl (x : E) (lo hi : Eo)
  | ch (o p : B2) (x y z : E)
  | tb (t : T)
  | ife (c : T) (x y : E)
  | tup (es : Es) | lst (es : Es)
  | call (f : Nat) (es : Es)
  | io (i : Nat)                  -- an argument: the name's tree, which the callee may change
  | ln (i : Nat)                  -- an argument: the name's tree, lent
  | idx (x y : E)                 -- x.index(y)
  | lc (el : E) (tg : List Nat) (it : It) (cs : To)   -- [el for tg in it if cs]
  | dE                            -- {}
  | sv (i : Nat)                  -- a name, its tree made common
  | lr (e : E)                    -- list(range(e))
  | nev                           -- what is never come to
inductive Eo where
  | no | yes (e : E)
inductive Es where
  | nil | cons (e : E) (r : Es)
/-- a test -/
inductive T where
  | e (e : E) | an (x y : T) | or (x y : T) | nt (x : T) | one (x : T)
inductive To where
  | no | yes (t : T)
/-- what a loop walks -/
inductive It where
  | seq (e : E)                   -- a list or tuple
  | seqT (e : E)                  -- of tuples, unpacked
  | scr (e : E)                   -- the script
  | rng (e : E) | rng2 (a b : E)
  | enum (e : E)
end
mutual
inductive S where
  | set (i : Nat) (e : E)
  | setT (tg : List Nat) (e : E)
  | expr (e : E)
  | app (i : Nat) (e : E)          -- i.append(e)
  | put (i : Nat) (k e : E)        -- i[k] = e
  | ret (e : E)
  | iff (c : T) (a b : Ss)
  | for_ (tg : List Nat) (it : It) (b : Ss)
  | whl (c : T) (b : Ss)
  | pass | brk | cnt
  | nev
inductive Ss where
  | nil | cons (s : S) (r : Ss)
end

/-! ### expressions -/
/-- changes nothing that stands -/
def E.pu : E → Bool
  | .c _ => true
  | .g _ _ => true
  | .v _ => true
  | .u _ a => a.pu
  | .b _ x y => x.pu && y.pu
  | .ix x y => x.pu && y.pu
  | .idx x y => x.pu && y.pu
  | .lst .nil => true
  | _ => false
def Eo.pu : Eo → Bool
  | .no => true
  | .yes e => e.pu
/-- a value that is taken in: an unmarked one as it is, a marked one that no name holds as it is; one that a name holds is made common -/
def own (e : E) (d : D) (lo : Bool) (ρ : Ev) : R D :=
  if d.isC = true ∨ lo = false then .ok d ρ else match e with
  | .v i => .ok d.clr (ρ.set i (some d.clr))
  | _ => .bad
/-- the value d in hand stands while e is asked -/
def held (d : D) (lo : Bool) (e : E) : Bool := !lo || d.isC || e.pu

/-- the tuple of the items: unmarked where all of them are -/
def mkTup (ds : List D) : Option D := if ds.length ≤ sizeLine then some (.tup (!isCs ds) ds) else none
def mkLst (ds : List D) : Option D := if ds.length ≤ sizeLine then some (.lst true ds) else none

/-- an argument: a tree, a name whose tree is given away for the call, a name whose tree is lent -/
inductive Arg where
  | d (d : D) | io (i : Nat) | ln (i : Nat)
mutual
/-- no list, dict, object that others may hold -/
def D.noSh : D → Bool
  | .non => true
  | .bl _ => true
  | .int _ => true
  | .str _ => true
  | .lst o xs => o && noShs xs
  | .tup _ xs => noShs xs
  | .dK o _ vs => o && noShs vs
  | .dT o _ vs => o && noShs vs
  | .obj o _ _ vs => o && noShs vs
  | .scr _ => false
def noShs : List D → Bool
  | [] => true
  | d :: r => d.noSh && noShs r
end
/-- only its root is marked, and it is no tuple -/
def D.rootOnly : D → Bool
  | .lst true xs => isCs xs
  | .dK true _ vs => isCs vs
  | _ => false
def argD (ρ : Ev) : Arg → Option D
  | .d d => some d
  | .io i => (ρ[i]?).join
  | .ln i => ((ρ[i]?).join).map D.clr
def argsD (ρ : Ev) : List Arg → Option (List D)
  | [] => some []
  | a :: r => match argD ρ a, argsD ρ r with
    | some d, some l => some (d :: l)
    | _, _ => none
/-- what is given away or lent is not at hand -/
def offs (ρ : Ev) : List Arg → Ev
  | [] => ρ
  | .io i :: r => (offs ρ r).set i none
  | .ln i :: r => (offs ρ r).set i none
  | .d _ :: r => offs ρ r
/-- behind the call -/
def backF (ρ0 ρ : Ev) (ok : Bool) : List Arg → List (Option D) → Ev
  | .io i :: r, f :: fs => (backF ρ0 ρ ok r fs).set i f
  | .ln i :: r, _ :: fs => (backF ρ0 ρ ok r fs).set i (if ok = true then (ρ[i]?).join else ((ρ[i]?).join).map D.clr)
  | .d _ :: r, _ :: fs => backF ρ0 ρ ok r fs
  | _, _ => ρ0
def Arg.slot : Arg → List Nat
  | .d _ => []
  | .io i => [i]
  | .ln i => [i]
/-- all that stands at lent names is a root alone -/
def lendable (ρ : Ev) (as : List Arg) : Bool := as.all fun a => match a with
  | .ln i => (match (ρ[i]?).join with
    | some d => d.rootOnly || d.isC
    | none => false)
  | _ => true
def finNoSh : List Arg → List (Option D) → Bool
  | .io _ :: r, f :: fs => (match f with
    | some d => d.noSh
    | none => true) && finNoSh r fs
  | .ln _ :: r, _ :: fs => finNoSh r fs
  | .d _ :: r, _ :: fs => finNoSh r fs
  | _, _ => true
def hasLn (as : List Arg) : Bool := as.any fun a => match a with
  | .ln _ => true
  | _ => false
def callR (F : Orc) (f : Nat) (as : List Arg) (ρ : Ev) : R (D × Bool) :=
  match argsD ρ as with
  | none => .bad
  | some ds => if (as.flatMap Arg.slot).Nodup then (match F f ds with
    | .ok d fin => if fin.length = as.length then .ok (d, false) (backF (offs ρ as) ρ (d.noSh && (finNoSh as fin && lendable ρ as)) as fin) else .bad
    | .ex x => if hasLn as = true then .bad else .ex x (offs ρ as)
    | .bad => .bad) else .bad
def wipeE (ρ : Ev) (tg : List Nat) : Ev := tg.foldl (fun ρ i => ρ.set i none) ρ
def putE (ρ : Ev) (tg : List Nat) (x : List D) : Ev := (tg.zip x).foldl (fun ρ p => ρ.set p.1 (some p.2)) ρ
/-- the targets are places -/
def tgIn (ρ : Ev) (tg : List Nat) : Bool := tg.all fun i => decide (i < ρ.length)
/-- the turns of a comprehension -/
def lcGo (tg : List Nat) (el : Ev → R D) (cs : Ev → R Bool) : List (List D) → Ev → List D → R (List D)
  | [], ρ, acc => .ok acc ρ
  | x :: xs, ρ, acc => if x.length = tg.length ∧ tgIn ρ tg = true then
      (cs (putE ρ tg x)).bnd fun b ρ1 =>
        if b = true then (el ρ1).bnd fun d ρ2 => if acc.length < sizeLine then lcGo tg el cs xs (wipeE ρ2 tg) (acc ++ [d]) else .bad
        else lcGo tg el cs xs (wipeE ρ1 tg) acc
    else .bad
def R.nox {α : Type} : R α → R α
  | .ex _ _ => .bad
  | r => r

/-- the tuples' items -/
def tupsOf : List D → Option (List (List D))
  | [] => some []
  | .tup _ xs :: r => (tupsOf r).map (xs :: ·)
  | _ :: _ => none
mutual
def E.go (F : Orc) : E → Ev → R (D × Bool)
  | .c k, ρ => .ok (k.d, false) ρ
  | .g _ k, ρ => .ok (k.d, false) ρ
  | .v i, ρ => match ρ[i]? with
    | some (some d) => .ok (d, true) ρ
    | _ => .bad
  | .mv i, ρ => match ρ[i]? with
    | some (some d) => .ok (d, false) (ρ.set i none)
    | _ => .bad
  | .u o a, ρ => (a.go F ρ).bnd fun d ρ => .opt ((o.go d.1).map (·, false)) ρ
  | .b o x y, ρ => (x.go F ρ).bnd fun a ρ => if held a.1 a.2 y = true then (y.go F ρ).bnd fun b ρ => .opt ((o.go a.1 b.1).map (·, false)) ρ else .bad
  | .ix x y, ρ => (x.go F ρ).bnd fun a ρ => if held a.1 a.2 y = true then (y.go F ρ).bnd fun b ρ => .opt ((ixD a.1 b.1).map (·, a.2)) ρ else .bad
  | .sl x lo hi, ρ => (x.go F ρ).bnd fun a ρ => if (!a.2 || a.1.isC || (lo.pu && hi.pu)) = true then (lo.go F ρ).bnd fun l ρ => (hi.go F ρ).bnd fun h ρ => .opt ((slD a.1 l h).map (·, false)) ρ else .bad
  | .ch o p x y z, ρ => if (y.pu && z.pu) = true then (x.go F ρ).bnd fun a ρ => (y.go F ρ).bnd fun b ρ => match o.go a.1 b.1 with
    | some (.bl true) => (z.go F ρ).bnd fun c ρ => .opt ((p.go b.1 c.1).map (·, false)) ρ
    | some (.bl false) => .ok (.bl false, false) ρ
    | _ => .bad
    else .bad
  | .tb t, ρ => (t.val F ρ).bnd fun b ρ => .ok (.bl b, false) ρ
  | .ife c x y, ρ => (c.tst F ρ).bnd fun b ρ => if b = true then x.go F ρ else y.go F ρ
  | .tup es, ρ => (es.go F ρ).bnd fun ds ρ => .opt ((mkTup ds).map (·, false)) ρ
  | .lst es, ρ => (es.go F ρ).bnd fun ds ρ => .opt ((mkLst ds).map (·, false)) ρ
  | .call f es, ρ => (es.args F ρ).bnd fun as ρ => callR F f as ρ
  | .io _, _ => .bad
  | .ln _, _ => .bad
  | .idx x y, ρ => (x.go F ρ).bnd fun a ρ => match a.1 with
    | .lst _ xs => if held a.1 a.2 y = true then (y.go F ρ).bnd fun b ρ => .opt (if b.1.flat = true ∧ xs.all D.flat = true then (xs.findIdx? fun z => eqF z b.1).map fun j => (.int (j : Nat), false) else none) ρ else .bad
    | _ => .bad
  | .lc el tg it cs, ρ => (it.go F ρ).bnd fun xs ρ => (lcGo tg (fun ρ => (el.go F ρ).bnd fun d ρ => own el d.1 d.2 ρ) (fun ρ => cs.tst F ρ) xs (wipeE ρ tg) []).nox.bnd fun ds ρ' => .ok (.lst true ds, false) ρ'
  | .dE, ρ => .ok (.dK true [] [], false) ρ
  | .sv i, ρ => match ρ[i]? with
    | some (some d) => .ok (d.clr, false) (ρ.set i (some d.clr))
    | _ => .bad
  | .lr e, ρ => (e.go F ρ).bnd fun d ρ => match d.1 with
    | .int j => if 0 ≤ j ∧ j ≤ 16777216 then .ok (.lst true ((List.range j.toNat).map fun (i : Nat) => .int i), false) ρ else .bad
    | _ => .bad
  | .nev, _ => .bad
/-- a test -/
def T.tst (F : Orc) : T → Ev → R Bool
  | .an x y, ρ => (x.tst F ρ).bnd fun b ρ => if b = true then y.tst F ρ else .ok false ρ
  | .or x y, ρ => (x.tst F ρ).bnd fun b ρ => if b = true then .ok true ρ else y.tst F ρ
  | .nt x, ρ => (x.tst F ρ).bnd fun b ρ => .ok (!b) ρ
  | .one x, ρ => x.tst F ρ
  | .e e, ρ => (e.go F ρ).bnd fun d ρ => .opt (truD d.1) ρ
/-- as a value: of truth values alone -/
def T.val (F : Orc) : T → Ev → R Bool
  | .an x y, ρ => (x.val F ρ).bnd fun b ρ => if b = true then y.val F ρ else .ok false ρ
  | .or x y, ρ => (x.val F ρ).bnd fun b ρ => if b = true then .ok true ρ else y.val F ρ
  | .nt x, ρ => (x.val F ρ).bnd fun b ρ => .ok (!b) ρ
  | .one x, ρ => x.val F ρ
  | .e e, ρ => (e.go F ρ).bnd fun d ρ => match d.1 with
    | .bl b => .ok b ρ
    | _ => .bad
def Eo.go (F : Orc) : Eo → Ev → R (Option Int)
  | .no, ρ => .ok none ρ
  | .yes e, ρ => (e.go F ρ).bnd fun d ρ => match d.1 with
    | .int i => .ok (some i) ρ
    | _ => .bad
def To.tst (F : Orc) : To → Ev → R Bool
  | .no, ρ => .ok true ρ
  | .yes e, ρ => e.tst F ρ
def Es.go (F : Orc) : Es → Ev → R (List D)
  | .nil, ρ => .ok [] ρ
  | .cons e r, ρ => (e.go F ρ).bnd fun d ρ => (own e d.1 d.2 ρ).bnd fun d ρ => (r.go F ρ).bnd fun ds ρ => .ok (d :: ds) ρ
def Es.args (F : Orc) : Es → Ev → R (List Arg)
  | .nil, ρ => .ok [] ρ
  | .cons e r, ρ => match e with
    | .io i => if ((ρ[i]?).join).isSome = true then (r.args F ρ).bnd fun ds ρ => .ok (.io i :: ds) ρ else .bad
    | .ln i => if ((ρ[i]?).join).isSome = true then (r.args F ρ).bnd fun ds ρ => .ok (.ln i :: ds) ρ else .bad
    | e' => (e.go F ρ).bnd fun d ρ => (own e' d.1 d.2 ρ).bnd fun d ρ => (r.args F ρ).bnd fun ds ρ => .ok (.d d :: ds) ρ
/-- the items that are walked, one list a turn's targets -/
def It.go (F : Orc) : It → Ev → R (List (List D))
  | .seq e, ρ => (e.go F ρ).bnd fun d ρ => (own e d.1 d.2 ρ).bnd fun d ρ => match d.iter with
    | some xs => .ok (xs.map fun x => [x]) ρ
    | none => .bad
  | .seqT e, ρ => (e.go F ρ).bnd fun d ρ => (own e d.1 d.2 ρ).bnd fun d ρ => match d.items with
    | some xs => .opt (tupsOf xs) ρ
    | none => .bad
  | .scr e, ρ => (e.go F ρ).bnd fun d ρ => match d.1 with
    | .scr ns => .ok (ns.map fun x => [.int x]) ρ
    | _ => .bad
  | .rng e, ρ => (e.go F ρ).bnd fun d ρ => match d.1 with
    | .int j => if -(2 ^ 62) ≤ j ∧ j < 2 ^ 62 then .ok ((List.range j.toNat).map fun (i : Nat) => [.int i]) ρ else .bad
    | _ => .bad
  | .rng2 a b, ρ => (a.go F ρ).bnd fun d ρ => (b.go F ρ).bnd fun e ρ => match d.1, e.1 with
    | .int i, .int j => if (-(2 ^ 62) ≤ i ∧ i < 2 ^ 62) ∧ (-(2 ^ 62) ≤ j ∧ j < 2 ^ 62) then .ok ((List.range (j - i).toNat).map fun (k : Nat) => [.int (i + k)]) ρ else .bad
    | _, _ => .bad
  | .enum e, ρ => (e.go F ρ).bnd fun d ρ => (own e d.1 d.2 ρ).bnd fun d ρ => match d with
    | .lst _ xs => if isCs xs = true then .ok ((xs.zip (List.range xs.length)).map fun p => [.int (p.2 : Nat), p.1]) ρ else .bad
    | _ => .bad
end
/-! ### statements -/
inductive RS where
  | nx (ρ : Ev) | ret (d : D) (ρ : Ev) | brk (ρ : Ev) | cnt (ρ : Ev) | ex (x : Xn) (ρ : Ev) | bad
  deriving Inhabited
def R.st {α : Type} (r : R α) (k : α → Ev → RS) : RS := match r with
  | .ok a ρ => k a ρ
  | .ex x ρ => .ex x ρ
  | .bad => .bad
@[simp] theorem R.st_ok {α : Type} (a : α) (ρ : Ev) (k : α → Ev → RS) : (R.ok a ρ).st k = k a ρ := rfl
@[simp] theorem R.st_ex {α : Type} (x : Xn) (ρ : Ev) (k : α → Ev → RS) : (R.ex x ρ).st k = .ex x ρ := rfl
@[simp] theorem R.st_bad {α : Type} (k : α → Ev → RS) : (R.bad : R α).st k = .bad := rfl
def RS.seq (r : RS) (k : Ev → RS) : RS := match r with
  | .nx ρ => k ρ
  | r => r
def forGo (tg : List Nat) (b : Ev → RS) : List (List D) → Ev → RS
  | [], ρ => .nx ρ
  | x :: xs, ρ => if x.length = tg.length ∧ tgIn ρ tg = true then (match b (putE ρ tg x) with
    | .nx ρ => forGo tg b xs ρ
    | .cnt ρ => forGo tg b xs ρ
    | .brk ρ => .nx ρ
    | .ret d ρ => .ret d ρ
    | .ex x ρ => .ex x ρ
    | .bad => .bad) else .bad
/-- as many turns as are told at most -/
def whlGo (c : Ev → R Bool) (b : Ev → RS) : Nat → Ev → RS
  | 0, _ => .bad
  | n + 1, ρ => (c ρ).st fun k ρ => if k = true then (match b ρ with
    | .nx ρ => whlGo c b n ρ
    | .cnt ρ => whlGo c b n ρ
    | .brk ρ => .nx ρ
    | .ret d ρ => .ret d ρ
    | .ex x ρ => .ex x ρ
    | .bad => .bad) else .nx ρ
/-- the turns that a while may take -/
def fuel : Nat := 1000000
mutual
/-- ro: the names that stand as they stood (their trees may change) -/
def S.go (F : Orc) (ro : List Nat) : S → Ev → RS
  | .set i e, ρ => if ro.contains i = true then .bad else (e.go F ρ).st fun d ρ => (own e d.1 d.2 ρ).st fun d ρ => if i < ρ.length then .nx (ρ.set i (some d)) else .bad
  | .setT tg e, ρ => if tg.any ro.contains = true then .bad else (e.go F ρ).st fun d ρ => (own e d.1 d.2 ρ).st fun d ρ => match d with
    | .tup _ xs => if xs.length = tg.length ∧ tgIn ρ tg = true then .nx (putE ρ tg xs) else .bad
    | _ => .bad
  | .expr e, ρ => (e.go F ρ).st fun _ ρ => .nx ρ
  | .app i e, ρ => match ρ[i]? with
    | some (some (.lst _ _)) => ((e.go F ρ).st fun d ρ => (own e d.1 d.2 ρ).st fun d ρ => match ρ[i]? with
      | some (some (.lst true xs)) => if xs.length < sizeLine then .nx (ρ.set i (some (.lst true (xs ++ [d])))) else .bad
      | _ => .bad)
    | _ => .bad
  | .put i k e, ρ => (e.go F ρ).st fun d ρ => (own e d.1 d.2 ρ).st fun d ρ => if (k.pu && ((ρ[i]?).join).isSome) = true then (k.go F ρ).st fun k ρ => match ρ[i]? with
    | some (some (.lst true xs)) => (match k.1 with
      | .int j => (match ixN xs.length j with
        | some n => .nx (ρ.set i (some (.lst true (xs.set n d))))
        | none => .bad)
      | _ => .bad)
    | some (some (.dK true ks vs)) => (match k.1.key with
      | some q => if ks.length < sizeLine ∧ ks.length = vs.length then (match ks.findIdx? fun k => decide (k = q) with
        | some n => if (ks.drop (n + 1)).all (fun k => !decide (k = q)) = true then .nx (ρ.set i (some (.dK true ks (vs.set n d)))) else .bad
        | none => .nx (ρ.set i (some (.dK true (ks ++ [q]) (vs ++ [d]))))) else .bad
      | none => .bad)
    | _ => .bad
    else .bad
  | .ret e, ρ => (e.go F ρ).st fun d ρ => (own e d.1 d.2 ρ).st fun d ρ => .ret d ρ
  | .iff c a b, ρ => (c.tst F ρ).st fun k ρ => if k = true then a.go F ro ρ else b.go F ro ρ
  | .for_ tg it b, ρ => if tg.any ro.contains = true then .bad else (it.go F ρ).st fun xs ρ => forGo tg (fun ρ => b.go F ro ρ) xs ρ
  | .whl c b, ρ => whlGo (fun ρ => c.tst F ρ) (fun ρ => b.go F ro ρ) fuel ρ
  | .pass, ρ => .nx ρ
  | .brk, ρ => .brk ρ
  | .cnt, ρ => .cnt ρ
  | .nev, _ => .bad
def Ss.go (F : Orc) (ro : List Nat) : Ss → Ev → RS
  | .nil, ρ => .nx ρ
  | .cons s r, ρ => (s.go F ro ρ).seq fun ρ => r.go F ro ρ
end
/-! ### defs -/
structure Df where
  nm : Str
  np : Nat
  ns : Nat
  ro : List Nat
  body : Ss
def Df.start (f : Df) (ds : List D) : Ev := ds.map some ++ List.replicate (f.ns - ds.length) none
/-- what is left at the parameters -/
def finOf (f : Df) (ρ : Ev) : List (Option D) := (List.range f.np).map fun i => if f.ro.contains i = true then (ρ[i]?).join else none
def Df.run (f : Df) (F : Orc) (ds : List D) : CR := if ds.length = f.np then (match f.body.go F f.ro (f.start ds) with
  | .nx ρ => .ok .non (finOf f ρ)
  | .ret d ρ => .ok d (finOf f ρ)
  | .ex x _ => .ex x
  | _ => .bad) else .bad
/-- the defs by their numbers, so deep -/
def call (tb : List Df) : Nat → Orc
  | 0, _, _ => .bad
  | n + 1, f, ds => match tb[f]? with
    | some d => d.run (call tb n) ds
    | none => .bad
end Hm
end
section
set_option Elab.async false
set_option linter.all false
set_option maxRecDepth 100000
/-! What a frame's names hold, what is owned, and what an expression's end promises. -/
namespace Hm
open PySem PySem.Spec PyProof.Rows L2

/-! ### owned addresses -/
structure Ow (S : Own) (H : Hp) (L : List Addr) : Prop where
  nd : L.Nodup
  own : ∀ a ∈ L, ¬ S a ∧ ∃ o, H a = some o
  com : ∀ a, S a → ∃ o, H a = some o
section
variable {S S' : Own} {H H' : Hp} {L L' A B C O : List Addr}
theorem Ow.sub (w : Ow S H L) (h : List.Sublist L' L) : Ow S H L' := ⟨w.nd.sublist h, fun a ha => w.own a (h.subset ha), w.com⟩
theorem Ow.perm (w : Ow S H L) (h : L'.Perm L) : Ow S H L' := ⟨h.nodup_iff.mpr w.nd, fun a ha => w.own a (h.mem_iff.mp ha), w.com⟩
theorem Ow.r1 (w : Ow S H (A ++ B ++ O)) : Ow S H (B ++ (A ++ O)) := w.perm (by
  rw [List.append_assoc]
  exact List.perm_append_comm_assoc B A O)
theorem Ow.drop1 (w : Ow S H (A ++ B ++ O)) : Ow S H (B ++ O) := w.sub (by
  rw [List.append_assoc]
  exact List.sublist_append_right _ _)
/-- some of them become common -/
theorem Ow.share (w : Ow S H (A ++ L)) : Ow (fun a => S a ∨ a ∈ A) H L := by
  refine ⟨(List.nodup_append.mp w.nd).2.1, fun a ha => ⟨?_, (w.own a (List.mem_append_right _ ha)).2⟩, fun a ha => ?_⟩
  · rintro (h | h)
    · exact (w.own a (List.mem_append_right _ ha)).1 h
    · exact (List.nodup_append.mp w.nd).2.2 a h a ha rfl
  · rcases ha with h | h
    · exact w.com a h
    · exact (w.own a (List.mem_append_left _ h)).2
theorem Ow.ne (w : Ow S H (A ++ B)) {a b : Addr} (ha : a ∈ A) (hb : b ∈ B) : a ≠ b := (List.nodup_append.mp w.nd).2.2 a ha b hb
/-- a new object -/
theorem Ow.new {p : Addr} {o : HO} (w : Ow S H L) (hp : H p = none) : Ow S (upd H p o) (p :: L) := by
  have hn : p ∉ L := fun h => by
    obtain ⟨u, e⟩ := (w.own p h).2
    rw [hp] at e; cases e
  refine ⟨List.nodup_cons.mpr ⟨hn, w.nd⟩, fun a ha => ?_, fun a ha => ?_⟩
  · rcases List.mem_cons.mp ha with rfl | h
    · refine ⟨fun hs => ?_, _, upd_same⟩
      obtain ⟨u, e⟩ := w.com a hs
      rw [hp] at e; cases e
    · refine ⟨(w.own a h).1, ?_⟩
      rw [upd_ne (show a ≠ p from fun z => hn (z ▸ h))]
      exact (w.own a h).2
  · have : a ≠ p := fun z => by
      subst z
      obtain ⟨u, e⟩ := w.com a ha
      rw [hp] at e; cases e
    rw [upd_ne this]
    exact w.com a ha
/-- a new common object -/
theorem Ow.newC {p : Addr} {o : HO} (w : Ow S H L) (hp : H p = none) : Ow (fun a => S a ∨ a = p) (upd H p o) L := by
  have h := (w.new (o := o) hp)
  have h2 := Ow.share (A := [p]) (L := L) h
  refine ⟨h2.nd, fun a ha => ⟨fun z => (h2.own a ha).1 (z.imp id fun e => by simp [e]), (h2.own a ha).2⟩, fun a ha => h2.com a (ha.imp id fun e => by simp [e])⟩
/-- an owned object written -/
theorem Ow.wr {p : Addr} {o : HO} (w : Ow S H L) (hp : p ∈ L) : Ow S (upd H p o) L := by
  refine ⟨w.nd, fun a ha => ⟨(w.own a ha).1, ?_⟩, fun a ha => ?_⟩
  · by_cases e : a = p
    · subst e; exact ⟨_, upd_same⟩
    · rw [upd_ne e]; exact (w.own a ha).2
  · have : a ≠ p := fun z => (w.own p hp).1 (z ▸ ha)
    rw [upd_ne this]
    exact w.com a ha
end

/-! ### what stays -/
structure Fr (pu : Bool) (S : Own) (O : List Addr) (H H' : Hp) : Prop where
  st : ∀ a, S a ∨ a ∈ O → H' a = H a
  ext : pu = true → ∀ a o, H a = some o → H' a = some o
section
variable {pu pu' : Bool} {S S' : Own} {H H1 H2 : Hp} {O O' A : List Addr}
theorem Fr.refl : Fr pu S O H H := ⟨fun _ _ => rfl, fun _ _ _ e => e⟩
theorem Fr.trans (f : Fr pu S O H H1) (g : Fr pu' S' O' H1 H2) (hs : ∀ a, S a → S' a) (ho : ∀ a ∈ O, a ∈ O') : Fr (pu && pu') S O H H2 :=
  ⟨fun a ha => (g.st a (ha.imp (hs a) (ho a))).trans (f.st a ha), fun h a o e => by
    simp only [Bool.and_eq_true] at h
    exact g.ext h.2 a o (f.ext h.1 a o e)⟩
theorem Fr.weak (f : Fr pu S O H H1) (h : pu' = true → pu = true) : Fr pu' S O H H1 := ⟨f.st, fun z => f.ext (h z)⟩
theorem Fr.new {p : Addr} {o : HO} (w : Ow S H O) (hp : H p = none) : Fr pu S O H (upd H p o) := by
  refine ⟨fun a ha => upd_ne fun z => ?_, fun _ a o' e => by rw [upd_ne (ne_of_none e hp)]; exact e⟩
  subst z
  rcases ha with h | h
  · obtain ⟨u, e⟩ := w.com a h
    rw [hp] at e; cases e
  · obtain ⟨u, e⟩ := (w.own a h).2
    rw [hp] at e; cases e
end

/-! ### the names -/
section
variable (K : PySem.W.Frag) (ca : CA) (S : Own) (H : Hp)
inductive RepE : L2.St → Ev → List Addr → Prop
  | nil : RepE [] [] []
  | skip {x σ ρ A} : RepE σ ρ A → RepE (x :: σ) (none :: ρ) A
  | cons {v d σ ρ A B} : Rep K ca S H v d A → RepE σ ρ B → RepE (some v :: σ) (some d :: ρ) (A ++ B)
end
section
variable {K : PySem.W.Frag} {ca : CA} {S S' : Own} {H H' : Hp} {σ : L2.St} {ρ : Ev} {B : List Addr}
theorem RepE.length (r : RepE K ca S H σ ρ B) : σ.length = ρ.length := by
  induction r with
  | nil => rfl
  | skip _ ih => simp [ih]
  | cons _ _ ih => simp [ih]
theorem RepE.frame (r : RepE K ca S H σ ρ B) (hs : ∀ a, S a → S' a) (hh : ∀ a, S a → H' a = H a) (hB : ∀ a ∈ B, H' a = H a) : RepE K ca S' H' σ ρ B := by
  induction r with
  | nil => exact .nil
  | skip _ ih => exact .skip (ih hB)
  | cons p _ ih => exact .cons (p.frame hs hh fun a ha => hB a (List.mem_append_left _ ha)) (ih fun a ha => hB a (List.mem_append_right _ ha))
/-- a name let go -/
theorem RepE.off (r : RepE K ca S H σ ρ B) (i : Nat) : ∃ B', RepE K ca S H σ (ρ.set i none) B' ∧ List.Sublist B' B ∧ ∀ d, ρ[i]? = some (some d) → ∃ v A, σ[i]? = some (some v) ∧ Rep K ca S H v d A ∧ (A ++ B').Perm B := by
  induction r generalizing i with
  | nil => exact ⟨[], by simpa using RepE.nil, List.Sublist.refl _, fun d h => by simp at h⟩
  | @skip x σ ρ A q ih =>
    cases i with
    | zero => exact ⟨A, .skip q, List.Sublist.refl _, fun d h => by simp at h⟩
    | succ i =>
      obtain ⟨B', h1, h2, h3⟩ := ih i
      exact ⟨B', .skip h1, h2, fun d h => h3 d (by simpa using h)⟩
  | @cons v d σ ρ A B p q ih =>
    cases i with
    | zero => exact ⟨B, .skip q, List.sublist_append_right _ _, fun d' h => by
        simp at h; subst h
        exact ⟨v, A, rfl, p, List.Perm.refl _⟩⟩
    | succ i =>
      obtain ⟨B', h1, h2, h3⟩ := ih i
      refine ⟨A ++ B', .cons p h1, (List.Sublist.refl A).append h2, fun d' h => ?_⟩
      obtain ⟨v', A', e, r', pm⟩ := h3 d' (by simpa using h)
      refine ⟨v', A', by simpa using e, r', ?_⟩
      exact (List.perm_append_comm_assoc A' A B').trans (pm.append_left A)
/-- an empty place filled -/
theorem RepE.on (r : RepE K ca S H σ ρ B) (i : Nat) (hi : i < σ.length) {v : V} {d : D} {A : List Addr} (p : Rep K ca S H v d A) (hn : ρ[i]? = some none) : ∃ B', RepE K ca S H (σ.set i (some v)) (ρ.set i (some d)) B' ∧ B'.Perm (A ++ B) := by
  induction r generalizing i with
  | nil => simp at hi
  | @skip x σ ρ A' q ih =>
    cases i with
    | zero => exact ⟨A ++ A', .cons p q, List.Perm.refl _⟩
    | succ i =>
      obtain ⟨B', h1, h2⟩ := ih i (by simpa using hi) (by simpa using hn)
      exact ⟨B', .skip h1, h2⟩
  | @cons v' d' σ ρ A' B p' q ih =>
    cases i with
    | zero => simp at hn
    | succ i =>
      obtain ⟨B', h1, h2⟩ := ih i (by simpa using hi) (by simpa using hn)
      exact ⟨A' ++ B', .cons p' h1, (h2.append_left A').trans (List.perm_append_comm_assoc A' A B)⟩
theorem set_self_get {α : Type} : ∀ {l : List α} {i : Nat} {x : α}, l[i]? = some x → l.set i x = l
  | [], _, _, h => by simp at h
  | a :: l, 0, x, h => by simp at h; subst h; rfl
  | a :: l, i + 1, x, h => by
    simp at h
    show a :: l.set i x = a :: l
    rw [set_self_get h]
/-- a place's tree, whatever stood there -/
theorem RepE.put (r : RepE K ca S H σ ρ B) (i : Nat) (hi : i < σ.length) {v : V} {d : D} {A : List Addr} (p : Rep K ca S H v d A) : ∃ B', RepE K ca S H (σ.set i (some v)) (ρ.set i (some d)) B' ∧ ∃ B0, List.Sublist B0 B ∧ B'.Perm (A ++ B0) := by
  obtain ⟨B0, h1, h2, _⟩ := r.off i
  have hl : i < ρ.length := by rw [← r.length]; exact hi
  obtain ⟨B', h3, h4⟩ := h1.on i hi p (by simp [hl])
  refine ⟨B', by simpa using h3, B0, h2, h4⟩
/-- the same value again, its tree another -/
theorem RepE.re (r : RepE K ca S H σ ρ B) (i : Nat) {v : V} {d : D} {A : List Addr} (e : σ[i]? = some (some v)) (hn : ρ[i]? = some none) (p : Rep K ca S H v d A) : ∃ B', RepE K ca S H σ (ρ.set i (some d)) B' ∧ B'.Perm (A ++ B) := by
  obtain ⟨B', h1, h2⟩ := r.on i (List.getElem?_eq_some_iff.mp e).1 p hn
  rw [set_self_get e] at h1
  exact ⟨B', h1, h2⟩
theorem RepE.get (r : RepE K ca S H σ ρ B) {i : Nat} {d : D} (h : ρ[i]? = some (some d)) : ∃ v A, σ[i]? = some (some v) ∧ Rep K ca S H v d A ∧ ∀ a ∈ A, a ∈ B := by
  obtain ⟨B', _, _, h3⟩ := r.off i
  obtain ⟨v, A, e, p, pm⟩ := h3 d h
  exact ⟨v, A, e, p, fun a ha => pm.mem_iff.mp (List.mem_append_left _ ha)⟩
/-- the slot of an empty place says nothing -/
theorem RepE.any (r : RepE K ca S H σ ρ B) (i : Nat) (x : Option V) (hn : ρ[i]? = some none ∨ ρ[i]? = none) : RepE K ca S H (σ.set i x) ρ B := by
  induction r generalizing i with
  | nil => simpa using RepE.nil
  | @skip y σ ρ A q ih =>
    cases i with
    | zero => exact .skip q
    | succ i => exact .skip (ih i (by simpa using hn))
  | @cons v' d' σ ρ A' B p' q ih =>
    cases i with
    | zero => simp at hn
    | succ i => exact .cons p' (ih i (by simpa using hn))
end

/-! ### what an end promises -/
/-- an exception of one's own: its class, its own dict -/
def RepX (K : PySem.W.Frag) (ca : CA) (S : Own) (H : Hp) (cls : Value) (dd : Option Addr) (x : Xn) (A : List Addr) : Prop :=
  cls = .ref (ca x.c) ∧ match dd with
    | none => x.fs = [] ∧ x.vs = [] ∧ A = []
    | some a => ∃ fvs, S a ∧ H a = some (.xd fvs) ∧ fvs.map (·.1) = x.fs ∧ Reps K ca S H (fvs.map (·.2)) x.vs A
/-- how a result is told by values -/
abbrev Val (α β : Type) := α → β → Own → Hp → List Addr → Prop
section
variable (K : PySem.W.Frag) (ca : CA) (W : WX) (σ : L2.St)
def vE : Val (D × Bool) V := fun d v S H A => ∃ A', Rep K ca S H v d.1 A' ∧ A = if d.2 = true then [] else A'
def vO : Val D V := fun d v S H A => Rep K ca S H v d A
def vB : Val Bool Bool := fun d v _ _ A => v = d ∧ A = []
def vI : Val (Option Int) (Option Int) := fun d v _ _ A => v = d ∧ A = []
def vs : Val (List D) (List V) := fun d v S H A => Reps K ca S H v d A
def Post {α β : Type} (val : Val α β) (pu : Bool) (S : Own) (O : List Addr) (H : Hp) (Q : β → Hp → Prop) : R α → Prop
  | .ok a ρ => ∀ b S' H' A B, (∀ x, S x → S' x) → Fr pu S O H H' → val a b S' H' A → RepE K ca S' H' σ ρ B → Ow S' H' (A ++ B ++ O) → Q b H'
  | .ex x ρ => ∀ cls dd S' H' A B, (∀ x, S x → S' x) → Fr false S O H H' → RepX K ca S' H' cls dd x A → RepE K ca S' H' σ ρ B → Ow S' H' (A ++ B ++ O) → W cls dd σ H'
  | .bad => False
/-- what an expression asks -/
def Ask {α β : Type} (val : Val α β) (pu : Bool) (f : Ev → R α) (H : Hp) (Q : β → Hp → Prop) : Prop :=
  ∃ S O ρ B, RepE K ca S H σ ρ B ∧ Ow S H (B ++ O) ∧ Post K ca W σ val pu S O H Q (f ρ)
end
section
variable {K : PySem.W.Frag} {ca : CA} {W : WX} {σ : L2.St} {α β γ δ : Type} {val : Val α β} {val2 : Val γ δ} {pu pu1 pu2 : Bool} {S S1 : Own} {O A1 B1 : List Addr} {H H1 : Hp} {Q Q' : β → Hp → Prop} {r : R α}
theorem Post.imp (h : Post K ca W σ val pu S O H Q r) (q : ∀ b H', Q b H' → Q' b H') : Post K ca W σ val pu S O H Q' r := by
  cases r with
  | ok a ρ => exact fun b S' H' A B h1 h2 h3 h4 h5 => q _ _ (h b S' H' A B h1 h2 h3 h4 h5)
  | ex x ρ => exact h
  | bad => exact h
/-- what a first part has led to -/
structure Stp (K : PySem.W.Frag) (ca : CA) (W : WX) (σ : L2.St) {α β γ δ : Type} (val : Val α β) (val2 : Val γ δ) (pu pu1 : Bool) (S : Own) (O : List Addr) (H : Hp) (Q : δ → Hp → Prop) (r : R α) (k : α → Ev → R γ) (b : β) (H1 : Hp) (a : α) (ρ1 : Ev) (S1 : Own) (A1 B1 : List Addr) : Prop where
  e : r = .ok a ρ1
  sub : ∀ x, S x → S1 x
  fr : Fr pu1 S O H H1
  v : val a b S1 H1 A1
  env : RepE K ca S1 H1 σ ρ1 B1
  ow : Ow S1 H1 (A1 ++ B1 ++ O)
  post : Post K ca W σ val2 pu S O H Q (k a ρ1)
theorem Post.bnd {Q : δ → Hp → Prop} {k : α → Ev → R γ} (h : Post K ca W σ val2 pu S O H Q (r.bnd k)) :
    Post K ca W σ val pu1 S O H (fun b H1 => ∃ a ρ1 S1 A1 B1, Stp K ca W σ val val2 pu pu1 S O H Q r k b H1 a ρ1 S1 A1 B1) r := by
  cases r with
  | ok a ρ => exact fun b S' H' A B h1 h2 h3 h4 h5 => ⟨a, ρ, S', A, B, rfl, h1, h2, h3, h4, h5, h⟩
  | ex x ρ => exact h
  | bad => exact h
/-- the second part, asked behind the first; A: what is held meanwhile -/
theorem Post.next {r : R α} (h : Post K ca W σ val pu S O H Q r) (hs : ∀ x, S x → S1 x) (fr : Fr pu1 S O H H1) (hp : pu = true → pu1 = true ∧ pu2 = true) :
    Post K ca W σ val pu2 S1 (A1 ++ O) H1 (fun b H2 => ∃ a ρ2 S2 A2 B2, r = .ok a ρ2 ∧ (∀ x, S1 x → S2 x) ∧ Fr pu2 S1 (A1 ++ O) H1 H2 ∧ val a b S2 H2 A2 ∧ RepE K ca S2 H2 σ ρ2 B2 ∧ Ow S2 H2 (A2 ++ B2 ++ (A1 ++ O)) ∧ Q b H2) r := by
  have ho : ∀ a ∈ O, a ∈ A1 ++ O := fun a ha => List.mem_append_right _ ha
  cases r with
  | ok a ρ =>
    refine fun b S' H' A B h1 h2 h3 h4 h5 => ⟨a, ρ, S', A, B, rfl, h1, h2, h3, h4, h5, h b S' H' A B (fun x z => h1 x (hs x z)) ((fr.trans h2 hs ho).weak fun z => ?_) h3 h4 (h5.sub ?_)⟩
    · rw [(hp z).1, (hp z).2]; rfl
    · exact (List.Sublist.refl _).append (List.sublist_append_right _ _)
  | ex x ρ =>
    refine fun cls dd S' H' A B h1 h2 h3 h4 h5 => h cls dd S' H' A B (fun x z => h1 x (hs x z)) (Fr.weak (pu' := false) ((fr.weak (pu' := false) (by intro z; cases z)).trans h2 hs ho) (by intro z; cases z)) h3 h4 (h5.sub ?_)
    exact (List.Sublist.refl _).append (List.sublist_append_right _ _)
  | bad => exact h
end
end Hm
end
section
set_option Elab.async false
set_option linter.all false
set_option maxRecDepth 100000
/-! The operations on trees are those of the machine. -/
namespace Hm
open PySem PySem.Spec PyProof.Rows L2

/-- an operation's answer: d, its marked nodes new -/
def Res (K : PySem.W.Frag) (ca : CA) (S : Own) (H : Hp) (d : D) (Q : V → Hp → Prop) : Prop :=
  ∀ v S' H' N, (∀ a, S a → S' a) → (∀ a o, H a = some o → H' a = some o) → (∀ a, S' a → S a ∨ H a = none) → (∀ a, S' a → ¬ S a → ∃ o, H' a = some o) → Rep K ca S' H' v d N →
    (∀ a ∈ N, H a = none ∧ ¬ S' a ∧ ∃ o, H' a = some o) → N.Nodup → Q v H'
section
variable {K : PySem.W.Frag} {ca : CA} {S : Own} {H : Hp} {Q : V → Hp → Prop} {L : List Addr}
theorem Res.flat {d : D} (h : Res K ca S H d Q) {v : V} (r : Rep K ca S H v d []) : Q v H :=
  h v S H [] (fun _ z => z) (fun _ _ e => e) (fun _ z => .inl z) (fun _ z n => absurd z n) r (fun _ h => nomatch h) List.nodup_nil
/-- a new marked object of unmarked items -/
theorem Res.new (w : Ow S H L) {d : D} (h : Res K ca S H d Q) {p : Addr} {o : HO} (hp : H p = none) (r : ∀ S' H' : _, (∀ a, S a → S' a) → (∀ a, S a → H' a = H a) → H' p = some o → Rep K ca S' H' (.ref p) d [p]) : Q (.ref p) (upd H p o) := by
  have hS : ¬ S p := fun z => by
    obtain ⟨u, e⟩ := w.com p z
    rw [hp] at e; cases e
  refine h _ S _ [p] (fun _ z => z) (fun a u e => by rw [upd_ne (ne_of_none e hp)]; exact e) (fun _ z => .inl z) (fun _ z n => absurd z n) (r S _ (fun _ z => z) (fun a ha => upd_ne (show a ≠ p from fun z => hS (z ▸ ha))) upd_same) (fun a ha => ?_) (by simp)
  have e : a = p := by simpa using ha
  subst e
  exact ⟨hp, hS, o, upd_same⟩
/-- a new common object -/
theorem Res.newC (w : Ow S H L) {d : D} (h : Res K ca S H d Q) {p : Addr} {o : HO} (hp : H p = none) (r : ∀ S' H' : _, (∀ a, S a → S' a) → (∀ a, S a → H' a = H a) → S' p → H' p = some o → Rep K ca S' H' (.ref p) d []) : Q (.ref p) (upd H p o) := by
  have hS : ¬ S p := fun z => by
    obtain ⟨u, e⟩ := w.com p z
    rw [hp] at e; cases e
  refine h _ (fun a => S a ∨ a = p) _ [] (fun _ z => .inl z) (fun a u e => by rw [upd_ne (ne_of_none e hp)]; exact e) (fun a z => z.imp id fun e => by rw [e]; exact hp) (fun a z n => ?_) (r _ _ (fun _ z => .inl z) (fun a ha => upd_ne (show a ≠ p from fun z => hS (z ▸ ha))) (.inr rfl) upd_same) (fun _ h => nomatch h) List.nodup_nil
  rcases z with z | rfl
  · exact absurd z n
  · exact ⟨_, upd_same⟩
/-- what stands on behind an operation -/
theorem Res.use {d : D} (w : Ow S H L) (h : ∀ v S' H' N, (∀ a, S a → S' a) → Fr true S L H H' → Rep K ca S' H' v d N → Ow S' H' (N ++ L) → Q v H') : Res K ca S H d Q := by
  intro v S' H' N h1 h2 h3 h3' h4 h5 h6
  have old : ∀ a ∈ L, a ∉ N := fun a ha hn => by
    obtain ⟨o, e⟩ := (w.own a ha).2
    rw [(h5 a hn).1] at e; cases e
  refine h v S' H' N h1 ⟨fun a ha => ?_, fun _ => h2⟩ h4 ⟨List.nodup_append.mpr ⟨h6, w.nd, fun a ha b hb e => old b hb (e ▸ ha)⟩, fun a ha => ?_, fun a ha => ?_⟩
  · have : ∃ o, H a = some o := ha.elim (w.com a) fun z => (w.own a z).2
    obtain ⟨o, e⟩ := this
    rw [h2 a o e, e]
  · rcases List.mem_append.mp ha with z | z
    · exact ⟨(h5 a z).2.1, (h5 a z).2.2⟩
    · obtain ⟨n, o, e⟩ := w.own a z
      refine ⟨fun s => (h3 a s).elim n fun q => ?_, o, h2 a o e⟩
      rw [e] at q; cases q
  · by_cases z : S a
    · obtain ⟨o, e⟩ := w.com a z
      exact ⟨o, h2 a o e⟩
    · exact h3' a ha z

/-! ### what a tree tells of its value -/
theorem Rep.int_ {v : V} {i : Int} {A : List Addr} (r : Rep K ca S H v (.int i) A) : v = .int i := by cases r; rfl
theorem Rep.bl_ {v : V} {i : Bool} {A : List Addr} (r : Rep K ca S H v (.bl i) A) : v = .bl i := by cases r; rfl
theorem Rep.str_ {v : V} {i : Str} {A : List Addr} (r : Rep K ca S H v (.str i) A) : v = .str i := by cases r; rfl
theorem Rep.non_ {v : V} {A : List Addr} (r : Rep K ca S H v .non A) : v = .non := by cases r; rfl
theorem Rep.lst_ {v : V} {o : Bool} {xs : List D} {A : List Addr} (r : Rep K ca S H v (.lst o xs) A) : ∃ a vs A', v = .ref a ∧ H a = some (.lst vs) ∧ Reps K ca S H vs xs A' ∧ (isCs xs = true → A' = []) := by
  cases r with
  | lstS s h q => exact ⟨_, _, _, rfl, h, q, fun _ => rfl⟩
  | lstO h q => exact ⟨_, _, _, rfl, h, q, q.nil_of⟩
theorem Rep.tup_ {v : V} {o : Bool} {xs : List D} {A : List Addr} (r : Rep K ca S H v (.tup o xs) A) : ∃ a vs A', v = .ref a ∧ SqT K H a vs ∧ Reps K ca S H vs xs A' ∧ (isCs xs = true → A' = []) := by
  cases r with
  | tupS s h q => exact ⟨_, _, _, rfl, SqT.of h, q, fun _ => rfl⟩
  | tupW h q => exact ⟨_, _, _, rfl, .inr h, q, fun _ => rfl⟩
  | tupO h q => exact ⟨_, _, _, rfl, SqT.of h, q, q.nil_of⟩
theorem Rep.dK_ {v : V} {o : Bool} {ks : List Key} {ds : List D} {A : List Addr} (r : Rep K ca S H v (.dK o ks ds) A) : ∃ a kvs A', v = .ref a ∧ H a = some (.dK kvs) ∧ kvs.map (·.1) = ks ∧ Reps K ca S H (kvs.map (·.2)) ds A' ∧ (isCs ds = true → A' = []) := by
  cases r with
  | dKS s h e1 e2 q => subst e1 e2; exact ⟨_, _, _, rfl, h, rfl, q, fun _ => rfl⟩
  | dKO h e1 e2 q => subst e1 e2; exact ⟨_, _, _, rfl, h, rfl, q, q.nil_of⟩
theorem Reps.get : ∀ {vs : List V} {ds : List D} {A : List Addr}, Reps K ca S H vs ds A → ∀ {i : Nat} {d : D}, ds[i]? = some d → ∃ v A', vs[i]? = some v ∧ Rep K ca S H v d A' ∧ List.Sublist A' A
  | _, _, _, .nil, _, _, h => by simp at h
  | _, _, _, .cons (B := B) p q, 0, d, h => by
    simp at h; subst h
    exact ⟨_, _, rfl, p, List.sublist_append_left _ _⟩
  | _, _, _, .cons p q, i + 1, d, h => by
    obtain ⟨v, A', e, r, s⟩ := q.get (i := i) (by simpa using h)
    exact ⟨v, A', by simpa using e, r, s.trans (List.sublist_append_right _ _)⟩
theorem isCs_get {xs : List D} (h : isCs xs = true) {i : Nat} {d : D} (e : xs[i]? = some d) : d.isC = true := by
  rw [isCs_all, List.all_eq_true] at h
  exact h d (List.mem_of_getElem? e)
theorem isCs_mem {xs : List D} (h : isCs xs = true) {d : D} (e : d ∈ xs) : d.isC = true := by
  rw [isCs_all, List.all_eq_true] at h
  exact h d e
theorem isCs_append {xs ys : List D} : isCs (xs ++ ys) = (isCs xs && isCs ys) := by
  rw [isCs_all, isCs_all, isCs_all, List.all_append]
theorem Reps.uncons' {v : V} {d : D} {vs : List V} {ds : List D} {C : List Addr} (r : Reps K ca S H (v :: vs) (d :: ds) C) : ∃ A B, C = A ++ B ∧ Rep K ca S H v d A ∧ Reps K ca S H vs ds B := by
  cases r with
  | cons p q => exact ⟨_, _, rfl, p, q⟩
theorem Reps.uncons {v : V} {d : D} {vs : List V} {ds : List D} (r : Reps K ca S H (v :: vs) (d :: ds) []) : Rep K ca S H v d [] ∧ Reps K ca S H vs ds [] := by
  obtain ⟨A, B, e, p, q⟩ := r.uncons'
  obtain ⟨rfl, rfl⟩ := List.append_eq_nil_iff.mp e.symm
  exact ⟨p, q⟩
theorem Reps.cons0 {v : V} {d : D} {vs : List V} {ds : List D} (p : Rep K ca S H v d []) (q : Reps K ca S H vs ds []) : Reps K ca S H (v :: vs) (d :: ds) [] := Reps.cons (A := []) (B := []) p q
theorem Reps.nilV {vs : List V} {A : List Addr} (r : Reps K ca S H vs [] A) : vs = [] ∧ A = [] := by cases r; exact ⟨rfl, rfl⟩
theorem Reps.drop {vs : List V} {ds : List D} (r : Reps K ca S H vs ds []) (n : Nat) : Reps K ca S H (vs.drop n) (ds.drop n) [] := by
  induction n generalizing vs ds with
  | zero => exact r
  | succ n ih =>
    cases ds with
    | nil => obtain ⟨rfl, _⟩ := r.nilV; exact .nil
    | cons d ds =>
      cases vs with
      | nil => cases r
      | cons v vs => exact ih r.uncons.2
theorem Reps.take {vs : List V} {ds : List D} (r : Reps K ca S H vs ds []) (n : Nat) : Reps K ca S H (vs.take n) (ds.take n) [] := by
  induction n generalizing vs ds with
  | zero => exact .nil
  | succ n ih =>
    cases ds with
    | nil => obtain ⟨rfl, _⟩ := r.nilV; exact .nil
    | cons d ds =>
      cases vs with
      | nil => cases r
      | cons v vs => exact Reps.cons0 r.uncons.1 (ih r.uncons.2)
theorem Reps.rev {vs : List V} {ds : List D} (r : Reps K ca S H vs ds []) : Reps K ca S H vs.reverse ds.reverse [] := by
  induction ds generalizing vs with
  | nil => cases r; exact .nil
  | cons d ds ih =>
    cases vs with
    | nil => cases r
    | cons v vs =>
      obtain ⟨p, q⟩ := r.uncons
      rw [List.reverse_cons, List.reverse_cons]
      exact Reps.append (A := []) (B := []) (ih q) (Reps.one p)
theorem Reps.ints : ∀ {vs : List V} {ds : List D} {ns : List Int} {A : List Addr}, Reps K ca S H vs ds A → intsOf ds = some ns → vs = ns.map V.int
  | _, _, _, _, .nil, e => by
    simp only [intsOf, Option.some.injEq] at e
    subst e; rfl
  | _, _, _, _, .cons (d := d) p q, e => by
    cases d with
    | int i =>
      simp only [intsOf, Option.map_eq_some_iff] at e
      obtain ⟨l, e1, rfl⟩ := e
      rw [p.int_, q.ints e1]; rfl
    | _ => simp [intsOf] at e
theorem Reps.bls : ∀ {vs : List V} {ds : List D} {ns : List Bool} {A : List Addr}, Reps K ca S H vs ds A → blsOf ds = some ns → vs = ns.map V.bl
  | _, _, _, _, .nil, e => by
    simp only [blsOf, Option.some.injEq] at e
    subst e; rfl
  | _, _, _, _, .cons (d := d) p q, e => by
    cases d with
    | bl i =>
      simp only [blsOf, Option.map_eq_some_iff] at e
      obtain ⟨l, e1, rfl⟩ := e
      rw [p.bl_, q.bls e1]; rfl
    | _ => simp [blsOf] at e
theorem Reps.strs : ∀ {vs : List V} {ds : List D} {ns : List Str} {A : List Addr}, Reps K ca S H vs ds A → strsOf ds = some ns → vs = ns.map V.str
  | _, _, _, _, .nil, e => by
    simp only [strsOf, Option.some.injEq] at e
    subst e; rfl
  | _, _, _, _, .cons (d := d) p q, e => by
    cases d with
    | str i =>
      simp only [strsOf, Option.map_eq_some_iff] at e
      obtain ⟨l, e1, rfl⟩ := e
      rw [p.str_, q.strs e1]; rfl
    | _ => simp [strsOf] at e
theorem reps_ints (ns : List Int) : Reps K ca S H (ns.map V.int) (ns.map D.int) [] := by
  induction ns with
  | nil => exact .nil
  | cons a r ih => exact Reps.cons0 (.int a) ih
theorem reps_strs (ns : List Str) : Reps K ca S H (ns.map V.str) (ns.map D.str) [] := by
  induction ns with
  | nil => exact .nil
  | cons a r ih => exact Reps.cons0 (.str a) ih
mutual
theorem Rep.dp : ∀ {v : V} {d : D} {A : List Addr}, Rep K ca S H v d A → ∀ {p : PyData}, d.py = some p → Dp K H v p
  | _, _, _, .non, p, e => by simp only [D.py, Option.some.injEq] at e; subst e; exact .non
  | _, _, _, .bl b, p, e => by simp only [D.py, Option.some.injEq] at e; subst e; exact .bl b
  | _, _, _, .int b, p, e => by simp only [D.py, Option.some.injEq] at e; subst e; exact .int b
  | _, _, _, .str b, p, e => by simp only [D.py, Option.some.injEq] at e; subst e; exact .str b
  | _, _, _, .scrS .., p, e => by simp [D.py] at e
  | _, _, _, .scrW .., p, e => by simp [D.py] at e
  | _, _, _, .lstS s h q, p, e => by
    simp only [D.py, Option.map_eq_some_iff] at e
    obtain ⟨l, e1, rfl⟩ := e
    exact .lst (SqL.of h) (Reps.dp q e1)
  | _, _, _, .lstO h q, p, e => by
    simp only [D.py, Option.map_eq_some_iff] at e
    obtain ⟨l, e1, rfl⟩ := e
    exact .lst (SqL.of h) (Reps.dp q e1)
  | _, _, _, .tupS s h q, p, e => by
    simp only [D.py, Option.map_eq_some_iff] at e
    obtain ⟨l, e1, rfl⟩ := e
    exact .tup (SqT.of h) (Reps.dp q e1)
  | _, _, _, .tupW h q, p, e => by
    simp only [D.py, Option.map_eq_some_iff] at e
    obtain ⟨l, e1, rfl⟩ := e
    exact .tup (.inr h) (Reps.dp q e1)
  | _, _, _, .tupO h q, p, e => by
    simp only [D.py, Option.map_eq_some_iff] at e
    obtain ⟨l, e1, rfl⟩ := e
    exact .tup (SqT.of h) (Reps.dp q e1)
  | _, _, _, .dKS .., p, e => by simp [D.py] at e
  | _, _, _, .dKO .., p, e => by simp [D.py] at e
  | _, _, _, .dTS .., p, e => by simp [D.py] at e
  | _, _, _, .dTO .., p, e => by simp [D.py] at e
  | _, _, _, .objS .., p, e => by simp [D.py] at e
  | _, _, _, .objO .., p, e => by simp [D.py] at e
theorem Reps.dp : ∀ {v : List V} {d : List D} {A : List Addr}, Reps K ca S H v d A → ∀ {p : List PyData}, pysF d = some p → DpAll K H v p
  | _, _, _, .nil, p, e => by simp only [pysF, Option.some.injEq] at e; subst e; exact .nil
  | _, _, _, .cons (d := d) (ds := ds) r q, p, e => by
    simp only [pysF] at e
    cases e1 : d.py with
    | none => rw [e1] at e; simp at e
    | some a =>
      cases e2 : pysF ds with
      | none => rw [e1, e2] at e; simp at e
      | some l =>
        rw [e1, e2] at e
        simp only [Option.some.injEq] at e
        subst e
        exact .cons (Rep.dp r e1) (Reps.dp q e2)
end
theorem Rep.flatV {v : V} {d : D} {A : List Addr} (r : Rep K ca S H v d A) (h : d.flat = true) : flatV v = true := by
  cases r <;> first | rfl | (simp [D.flat] at h)
theorem Rep.eqV {v w : V} {d e : D} {A B : List Addr} (r : Rep K ca S H v d A) (q : Rep K ca S H w e B) (h : d.flat = true) (h2 : e.flat = true) : eqV v w = eqF d e := by
  cases r <;> first | (simp [D.flat] at h; done) | (cases q <;> first | (simp [D.flat] at h2; done) | rfl)
theorem Reps.flat {vs : List V} {ds : List D} {A : List Addr} (r : Reps K ca S H vs ds A) (h : ds.all D.flat = true) : vs.all L2.flatV = true := by
  induction ds generalizing vs A with
  | nil => cases r; rfl
  | cons d ds ih =>
    cases r with
    | cons p q =>
      simp only [List.all_cons, Bool.and_eq_true] at h
      simp only [List.all_cons, Bool.and_eq_true]
      exact ⟨p.flatV h.1, ih q h.2⟩
theorem Reps.inV {v : V} {x : D} {vs : List V} {ds : List D} {A B : List Addr} (p : Rep K ca S H v x B) (r : Reps K ca S H vs ds A) (hx : x.flat = true) (h : ds.all D.flat = true) : inV v vs = ds.any fun y => eqF y x := by
  induction ds generalizing vs A with
  | nil => cases r; rfl
  | cons d ds ih =>
    cases r with
    | @cons w ws _ _ _ _ q r =>
      simp only [List.all_cons, Bool.and_eq_true] at h
      show (L2.eqV w v || L2.inV v ws) = (eqF d x || ds.any fun y => eqF y x)
      rw [ih r h.2, q.eqV p h.1 hx]
/-- a key's value -/
theorem Rep.keyV {v : V} {d : D} {A : List Addr} (r : Rep K ca S H v d A) {k : Key} (e : d.key = some k) : v = kV k := by
  cases r <;> simp only [D.key, Option.some.injEq] at e <;> first | (subst e; rfl) | cases e
theorem look_valV {ds : List D} : ∀ {kvs : List (Key × V)} {A : List Addr}, Reps K ca S H (kvs.map (·.2)) ds A → ∀ (q : Key), (valV kvs q).isSome = inK (kvs.map (·.1)) q ∧ ∀ d, lookK (kvs.map (·.1)) ds q = some d → ∃ v A', valV kvs q = some v ∧ Rep K ca S H v d A' ∧ List.Sublist A' A := by
  induction ds with
  | nil =>
    intro kvs A r q
    cases kvs with
    | nil => exact ⟨rfl, fun d h => by simp [lookK] at h⟩
    | cons p kvs => cases r
  | cons d ds ih =>
    intro kvs A r q
    cases kvs with
    | nil => cases r
    | cons p kvs =>
      generalize e0 : List.map (fun x => x.2) (p :: kvs) = vs at r
      cases r with
      | @cons v vs d ds A B h1 h2 =>
        have e1 : v = p.2 ∧ vs = kvs.map (·.2) := by simpa [eq_comm] using e0
        obtain ⟨rfl, rfl⟩ := e1
        obtain ⟨i1, i2⟩ := ih h2 q
        by_cases e : p.1 = q
        · refine ⟨by rw [valV_pos e]; simp [inK, e], fun d' h => ?_⟩
          simp only [List.map_cons, lookK, if_pos e, Option.some.injEq] at h
          subst h
          exact ⟨_, _, valV_pos e, h1, List.sublist_append_left _ _⟩
        · refine ⟨by rw [valV_neg e, i1]; simp [inK, e], fun d' h => ?_⟩
          simp only [List.map_cons, lookK, if_neg e] at h
          obtain ⟨v', A', h3, h4, h5⟩ := i2 d' h
          exact ⟨v', A', by rw [valV_neg e]; exact h3, h4, h5.trans (List.sublist_append_right _ _)⟩
end
end Hm
end
section
set_option Elab.async false
set_option linter.all false
set_option maxRecDepth 100000
/-! The operators and built-ins, by trees. -/
namespace Hm
open PySem PySem.Spec PyProof.Rows L2

/-- an operation of two values by their trees -/
def rB (K : PySem.W.Frag) (ca : CA) (f : D → D → Option D) : R2 := fun x y H Q => ∃ S L dx dy A B d, Ow S H L ∧ Rep K ca S H x dx A ∧ Rep K ca S H y dy B ∧ f dx dy = some d ∧ Res K ca S H d Q
def rU1 (K : PySem.W.Frag) (ca : CA) (f : D → Option D) : V → Hp → VK → Prop := fun x H Q => ∃ S L dx A d, Ow S H L ∧ Rep K ca S H x dx A ∧ f dx = some d ∧ Res K ca S H d Q
def rC1 (K : PySem.W.Frag) (ca : CA) (f : D → Option D) : List V → Hp → VK → Prop := fun xs H Q => ∃ x, xs = [x] ∧ rU1 K ca f x H Q
def rC2 (K : PySem.W.Frag) (ca : CA) (f : D → D → Option D) : List V → Hp → VK → Prop := fun xs H Q => ∃ x y, xs = [x, y] ∧ rB K ca f x y H Q
section
variable {X : Cx} {ca : CA}
theorem OpR.imp {f : Value → Value → Sem Value} {r r' : R2} (h : OpR X f r) (k : ∀ x y H Q, r' x y H Q → r x y H Q) : OpR X f r' :=
  fun pins s σ H x y v u Q I rx ry q => h pins s σ H x y v u Q I rx ry (k _ _ _ _ q)
theorem UnR.imp {f : Value → Sem Value} {r r' : V → Hp → VK → Prop} (h : UnR X f r) (k : ∀ x H Q, r' x H Q → r x H Q) : UnR X f r' :=
  fun pins s σ H x v Q I rx q => h pins s σ H x v Q I rx (k _ _ _ q)
theorem CallR.imp {f : Value} {r r' : List V → Hp → VK → Prop} (h : CallR X f r) (k : ∀ x H Q, r' x H Q → r x H Q) : CallR X f r' :=
  fun pins s σ H x v Q I rx q => h pins s σ H x v Q I rx (k _ _ _ q)
theorem PE.imp {e : Expr} {t t' : TE} (h : PE X e t) (k : ∀ σ H Q, t' σ H Q → t σ H Q) : PE X e t' :=
  ⟨fun pins s σ H Q I q => h.run pins s σ H Q I (k _ _ _ q)⟩
theorem PE.or {e : Expr} {t t' : TE} (h : PE X e t) (h' : PE X e t') : PE X e fun σ H Q => t σ H Q ∨ t' σ H Q :=
  ⟨fun pins s σ H Q I q => q.elim (h.run pins s σ H Q I) (h'.run pins s σ H Q I)⟩
theorem PT.imp {e : Expr} {t t' : TT} (h : PT X e t) (k : ∀ σ H Q, t' σ H Q → t σ H Q) : PT X e t' :=
  ⟨fun pins s σ H Q I q => h.run pins s σ H Q I (k _ _ _ q)⟩
theorem PW.imp {e : Expr} {t t' : TT} (h : PW X e t) (k : ∀ σ H Q, t' σ H Q → t σ H Q) : PW X e t' :=
  ⟨fun w pins s σ H Q I q => h.run w pins s σ H Q I (k _ _ _ q)⟩
theorem PT.or {e : Expr} {t t' : TT} (h : PT X e t) (h' : PT X e t') : PT X e fun σ H Q => t σ H Q ∨ t' σ H Q :=
  ⟨fun pins s σ H Q I q => q.elim (h.run pins s σ H Q I) (h'.run pins s σ H Q I)⟩
theorem PS.imp {e : Stmt} {t t' : TS} (h : PS X e t) (k : ∀ D σ H, t' D σ H → t D σ H) : PS X e t' :=
  ⟨fun pins s σ H D I q => h.run pins s σ H D I (k _ _ _ q)⟩
theorem PSs.imp {e : List Stmt} {t t' : TS} (h : PSs X e t) (k : ∀ D σ H, t' D σ H → t D σ H) : PSs X e t' :=
  ⟨fun pins s σ H D I q => h.run pins s σ H D I (k _ _ _ q)⟩
theorem PA.imp {e : List Expr} {t t' : TA} (h : PA X e t) (k : ∀ σ H Q, t' σ H Q → t σ H Q) : PA X e t' :=
  ⟨fun pos pins s σ H Q I q => h.run pos pins s σ H Q I (k _ _ _ q)⟩
theorem PE.never {e : Expr} {t : TE} (h : ∀ σ H Q, ¬ t σ H Q) : PE X e t := ⟨fun _ _ σ H Q _ q => absurd q (h σ H Q)⟩

/-! ### + - * // % ** -/
def B2.op : B2 → Option Operator
  | .add => some .Add
  | .sub => some .Sub
  | .mul => some .Mult
  | .fdiv => some .FloorDiv
  | .mod => some .Mod
  | .pow => some .Pow
  | _ => none
theorem ari_of {f : Value → Value → Sem Value} {c : Int → Int → Bool} {C : Int → Int → Prop} {g : Int → Int → Int} (h : OpR X f (rI C fun i j => .int (g i j))) (k : ∀ i j, c i j = true → C i j) : OpR X f (rB X.K ca (ariD c g)) := by
  refine OpR.imp h ?_
  rintro x y H Q ⟨S, L, dx, dy, A, B, d, w, r1, r2, e, q⟩
  unfold ariD at e
  split at e
  · split at e
    · rename_i hc
      cases e
      exact ⟨_, _, r1.int_, r2.int_, k _ _ hc, q.flat (.int _)⟩
    · cases e
  · cases e
theorem ari0_of {f : Value → Value → Sem Value} {c : Int → Int → Bool} {g : Int → Int → Int} (h : OpR X f (rI0 fun i j => .int (g i j))) : OpR X f (rB X.K ca (ariD c g)) := by
  refine OpR.imp h ?_
  rintro x y H Q ⟨S, L, dx, dy, A, B, d, w, r1, r2, e, q⟩
  unfold ariD at e
  split at e
  · split at e
    · cases e
      exact ⟨_, _, r1.int_, r2.int_, q.flat (.int _)⟩
    · cases e
  · cases e
theorem cmp_of {f : Value → Value → Sem Value} {g : Int → Int → Bool} (h : OpR X f (rI0 fun i j => .bl (g i j))) : OpR X f (rB X.K ca (cmpD g)) := by
  refine OpR.imp h ?_
  rintro x y H Q ⟨S, L, dx, dy, A, B, d, w, r1, r2, e, q⟩
  unfold cmpD at e
  split at e
  · cases e
    exact ⟨_, _, r1.int_, r2.int_, q.flat (.bl _)⟩
  · cases e
theorem op_addD : OpR X (binaryOp .Add) (rB X.K ca addD) := by
  refine OpR.imp ((op_add.or op_add_str).or op_cat) ?_
  rintro x y H Q ⟨S, L, dx, dy, A, B, d, w, r1, r2, e, q⟩
  unfold addD at e
  split at e
  · cases e
    exact .inl (.inl ⟨_, _, r1.int_, r2.int_, q.flat (.int _)⟩)
  · split at e
    · rename_i hz
      cases e
      exact .inl (.inr ⟨_, _, r1.str_, r2.str_, hz, q.flat (.str _)⟩)
    · cases e
  · split at e
    · rename_i hz
      obtain ⟨hx, hy, hz⟩ := hz
      cases e
      obtain ⟨a, vs, A', rfl, h1, q1, k1⟩ := r1.lst_
      obtain ⟨b, us, B', rfl, h2, q2, k2⟩ := r2.lst_
      obtain rfl := k1 hx
      obtain rfl := k2 hy
      refine .inr ⟨a, b, vs, us, rfl, rfl, h1, h2, by rw [q1.length, q2.length]; exact hz, fun p hp => q.new w hp fun S' H' hs hh e => ?_⟩
      exact .lstO (A := []) e (Reps.append (A := []) (B := []) (q1.frame hs hh fun _ h => nomatch h) (q2.frame hs hh fun _ h => nomatch h))
    · cases e
  · cases e
theorem Reps.flatten {K : PySem.W.Frag} {S : Own} {H : Hp} {vs : List V} {ds : List D} (r : Reps K ca S H vs ds []) : ∀ k : Nat, Reps K ca S H (List.replicate k vs).flatten (List.replicate k ds).flatten []
  | 0 => .nil
  | k + 1 => by
    rw [List.replicate_succ, List.replicate_succ, List.flatten_cons, List.flatten_cons]
    exact Reps.append (A := []) (B := []) r (r.flatten k)
theorem repSize {s : Str} {n : Nat} : s.length * n = (⟨(List.replicate n s.cps).foldl (· ++ ·) #[]⟩ : Str).length := by
  have h : ∀ (m : Nat) (acc : Array Nat), ((List.replicate m s.cps).foldl (· ++ ·) acc).size = acc.size + s.cps.size * m := by
    intro m
    induction m with
    | zero => intro acc; simp
    | succ m ih =>
      intro acc
      rw [List.replicate_succ, List.foldl_cons, ih, Array.size_append, Nat.mul_succ]
      omega
  show s.cps.size * n = ((List.replicate n s.cps).foldl (· ++ ·) #[]).size
  rw [h]
  simp
theorem op_mulStr : OpR X (binaryOp .Mult) (fun x y H Q => ∃ s k, x = .str s ∧ y = .int k ∧ (-(2 ^ 63) ≤ k ∧ k < 2 ^ 63) ∧ s.length * k.toNat ≤ sizeLine ∧ Q (.str (repS s k)) H) := by
  intro pins s σ H x y v u Q I rx ry h
  obtain ⟨z, k, rfl, rfl, ⟨h1, h2⟩, hz, q⟩ := h
  obtain ⟨t, rfl⟩ := rx
  obtain ⟨t', rfl⟩ := ry
  have d1 : decide (k < -(2 ^ 63 : Int)) = false := decide_eq_false (by omega)
  have d2 : decide (k ≥ 2 ^ 63) = false := decide_eq_false (by omega)
  have hsl : sizeLine < 2 ^ 62 := by decide
  refine P.mul_str (by rw [d1, d2]; rfl) (fun hk _ => ?_) (fun hk _ => ?_) ?_
  · have e : z.length * k.toNat < 2 ^ 62 := Nat.lt_of_le_of_lt hz hsl
    intro hgt
    have hk0 : 0 < k := by omega
    have h3 : (z.length : Int) ≤ (2 ^ 63 - 1) / k := by
      rw [Int.le_ediv_iff_mul_le hk0]
      have : ((z.length * k.toNat : Nat) : Int) = (z.length : Int) * k := by
        rw [Int.natCast_mul, Int.toNat_of_nonneg (by omega)]
      rw [← this]
      omega
    omega
  · unfold Builtin.Str.tooLong
    exact decide_eq_false (by omega)
  · have tl : ∀ (n : Nat), n ≤ sizeLine → Builtin.Str.tooLong n = false := fun n hn => by unfold Builtin.Str.tooLong; exact decide_eq_false (by omega)
    unfold repS at q
    by_cases c1 : k < 1
    · rw [if_pos c1] at q ⊢
      exact ⟨by decide, .str Str.empty, H, I.tok _, ⟨_, rfl⟩, q⟩
    · rw [if_neg c1] at q ⊢
      by_cases c2 : (k == 1 || z.length == 0) = true
      · rw [if_pos c2] at q ⊢
        exact ⟨.str z, H, I, ⟨_, rfl⟩, q⟩
      · rw [if_neg c2] at q ⊢
        refine ⟨?_, .str _, H, I.tok _, ⟨_, rfl⟩, q⟩
        rw [← repSize]
        exact hz
theorem op_mulD : OpR X (binaryOp .Mult) (rB X.K ca mulD) := by
  refine OpR.imp (op_mulStr.or (op_mul.or op_rep)) ?_
  rintro x y H Q ⟨S, L, dx, dy, A, B, d, w, r1, r2, e, q⟩
  unfold mulD at e
  split at e
  · split at e
    · rename_i hc
      cases e
      exact .inl ⟨_, _, r1.str_, r2.int_, hc.1, hc.2, q.flat (.str _)⟩
    · cases e
  · split at e
    · rename_i hc
      cases e
      exact .inr (.inl ⟨_, _, r1.int_, r2.int_, hc, q.flat (.int _)⟩)
    · cases e
  · split at e
    · rename_i hz
      obtain ⟨hx, ⟨hk1, hk2⟩, hz⟩ := hz
      cases e
      obtain ⟨a, vs, A', rfl, h1, q1, k1⟩ := r1.lst_
      obtain rfl := k1 hx
      refine .inr (.inr ⟨a, _, vs, rfl, r2.int_, h1, hk1, hk2, by rw [q1.length]; exact hz, fun p hp => q.new w hp fun S' H' hs hh e => ?_⟩)
      exact .lstO (A := []) e ((q1.frame hs hh fun _ h => nomatch h).flatten _)
    · cases e
  · cases e
theorem binR (ca : CA) {o : B2} {op : Operator} (h : o.op = some op) : OpR X (binaryOp op) (rB X.K ca o.go) := by
  cases o <;> simp only [B2.op, Option.some.injEq, reduceCtorEq] at h <;> subst h
  · exact op_addD
  · exact ari0_of op_sub
  · exact op_mulD
  · exact ari_of op_fdivN fun i j h => (show j ≠ 0 ∧ j.natAbs < 1073741824 from of_decide_eq_true h)
  · exact ari_of op_modN fun i j h => of_decide_eq_true h
  · exact ari_of op_pow fun i j h => (show 0 ≤ j ∧ j ≤ 1000000 ∧ i.natAbs < 2 ^ 64 from of_decide_eq_true h)
/-! ### comparisons -/
def B2.cm : B2 → Option CmpOp
  | .eq => some .Eq
  | .ne => some .NotEq
  | .lt => some .Lt
  | .le => some .LtE
  | .gt => some .Gt
  | .ge => some .GtE
  | .in_ => some .In
  | .nin => some .NotIn
  | .isN => some .Is
  | .notN => some .IsNot
  | _ => none
theorem eqD_of {K : PySem.W.Frag} {S : Own} {H : Hp} {x y : V} {dx dy : D} {A B : List Addr} {k : Bool} (r1 : Rep K ca S H x dx A) (r2 : Rep K ca S H y dy B) (e : eqD dx dy = some k) :
    (scal x y = true ∧ k = decide (x = y)) ∨ ∃ p q, Dp K H x p ∧ Dp K H y q ∧ SeqAt.shaped p = true ∧ SeqAt.shaped q = true ∧ k = PyData.eqv p q := by
  unfold eqD at e
  split at e
  · cases e
    rw [r1.int_, r2.int_]
    refine .inl ⟨rfl, ?_⟩
    rw [decide_eq_decide]
    exact ⟨fun e => by rw [e], fun e => V.int.inj e⟩
  · cases e
    rw [r1.str_, r2.str_]
    refine .inl ⟨rfl, ?_⟩
    rw [decide_eq_decide]
    exact ⟨fun e => by rw [e], fun e => V.str.inj e⟩
  · cases e
    rw [r1.bl_, r2.bl_]
    refine .inl ⟨rfl, ?_⟩
    rw [decide_eq_decide]
    exact ⟨fun e => by rw [e], fun e => V.bl.inj e⟩
  · split at e
    · rename_i p q e1 e2
      split at e
      · rename_i hs
        cases e
        exact .inr ⟨p, q, r1.dp e1, r2.dp e2, hs.1, hs.2, rfl⟩
      · cases e
    · cases e
theorem op_eqDD (hu : X.A.units + 64 < cLine) : OpR X (compareOp .Eq) (rB X.K ca B2.eq.go) := by
  refine OpR.imp (op_eq.or (op_eqD hu)) ?_
  rintro x y H Q ⟨S, L, dx, dy, A, B, d, w, r1, r2, e, q⟩
  obtain ⟨k, e0, rfl⟩ := Option.map_eq_some_iff.mp (show (eqD dx dy).map D.bl = some d from e)
  rcases eqD_of r1 r2 e0 with ⟨h1, rfl⟩ | ⟨p, p', h1, h2, h3, h4, rfl⟩
  · exact .inl ⟨h1, q.flat (.bl _)⟩
  · exact .inr ⟨p, p', h1, h2, h3, h4, q.flat (.bl _)⟩
theorem op_neDD (hu : X.A.units + 64 < cLine) : OpR X (compareOp .NotEq) (rB X.K ca B2.ne.go) := by
  refine OpR.imp (op_ne.or (op_neD hu)) ?_
  rintro x y H Q ⟨S, L, dx, dy, A, B, d, w, r1, r2, e, q⟩
  obtain ⟨k, e0, rfl⟩ := Option.map_eq_some_iff.mp (show (eqD dx dy).map (fun k => D.bl (!k)) = some d from e)
  rcases eqD_of r1 r2 e0 with ⟨h1, rfl⟩ | ⟨p, p', h1, h2, h3, h4, rfl⟩
  · exact .inl ⟨h1, q.flat (.bl _)⟩
  · exact .inr ⟨p, p', h1, h2, h3, h4, q.flat (.bl _)⟩
theorem op_ltDD : OpR X (compareOp .Lt) (rB X.K ca ltD) := by
  refine OpR.imp (op_lt.or op_lt_str) ?_
  rintro x y H Q ⟨S, L, dx, dy, A, B, d, w, r1, r2, e, q⟩
  unfold ltD at e
  split at e
  · cases e
    exact .inl ⟨_, _, r1.int_, r2.int_, q.flat (.bl _)⟩
  · cases e
    exact .inr ⟨_, _, r1.str_, r2.str_, q.flat (.bl _)⟩
  · cases e
/-- in, but for dicts -/
def inS (x y : D) : Option Bool := match y with
  | .dK _ _ _ => none
  | y => inD x y
theorem inS_of {K : PySem.W.Frag} {S : Own} {H : Hp} {x y : V} {dx dy : D} {A B : List Addr} {k : Bool} (r1 : Rep K ca S H x dx A) (r2 : Rep K ca S H y dy B) (e : inS dx dy = some k) :
    (∃ p xs, y = .ref p ∧ (SqL K H p xs ∨ SqT K H p xs) ∧ flatV x = true ∧ xs.all flatV = true ∧ k = inV x xs) ∨ ∃ i j, x = .str i ∧ y = .str j ∧ k = !(Builtin.Str.occurrences j i 0 j.length 1).isEmpty := by
  unfold inS at e
  split at e
  · cases e
  · unfold inD at e
    split at e
    · split at e
      · rename_i hc
        cases e
        obtain ⟨a, vs, A', rfl, h1, q1, k1⟩ := r2.lst_
        exact .inl ⟨a, vs, rfl, .inl (SqL.of h1), r1.flatV hc.1, q1.flat hc.2, (Reps.inV r1 q1 hc.1 hc.2).symm⟩
      · cases e
    · split at e
      · rename_i hc
        cases e
        obtain ⟨a, vs, A', rfl, h1, q1, k1⟩ := r2.tup_
        exact .inl ⟨a, vs, rfl, .inr h1, r1.flatV hc.1, q1.flat hc.2, (Reps.inV r1 q1 hc.1 hc.2).symm⟩
      · cases e
    · rename_i h
      exact absurd rfl (h _ _ _)
    · split at e
      · cases e
        exact .inr ⟨_, _, r1.str_, r2.str_, rfl⟩
      · cases e
    · cases e
theorem op_inS : OpR X (compareOp .In) (rB X.K ca fun a b => (inS a b).map .bl) := by
  refine OpR.imp (op_in_seq.or op_in_str) ?_
  rintro x y H Q ⟨S, L, dx, dy, A, B, d, w, r1, r2, e, q⟩
  obtain ⟨k, e0, rfl⟩ := Option.map_eq_some_iff.mp e
  rcases inS_of r1 r2 e0 with ⟨p, xs, e1, e2, e3, e4, rfl⟩ | ⟨i, j, e1, e2, rfl⟩
  · exact .inl ⟨p, xs, e1, e2, e3, e4, q.flat (.bl _)⟩
  · exact .inr ⟨i, j, e1, e2, q.flat (.bl _)⟩
theorem op_ninS : OpR X (compareOp .NotIn) (rB X.K ca fun a b => (inS a b).map fun k => .bl (!k)) := by
  refine OpR.imp (op_notIn_seq.or op_notin_str) ?_
  rintro x y H Q ⟨S, L, dx, dy, A, B, d, w, r1, r2, e, q⟩
  obtain ⟨k, e0, rfl⟩ := Option.map_eq_some_iff.mp e
  rcases inS_of r1 r2 e0 with ⟨p, xs, e1, e2, e3, e4, rfl⟩ | ⟨i, j, e1, e2, rfl⟩
  · exact .inl ⟨p, xs, e1, e2, e3, e4, q.flat (.bl _)⟩
  · exact .inr ⟨i, j, e1, e2, q.flat (.bl _)⟩
theorem isN_of {K : PySem.W.Frag} {S : Own} {H : Hp} {x : V} {dx : D} {A : List Addr} (r : Rep K ca S H x dx A) : decide (x = .non) = dx.isNon := by
  cases r <;> rfl
theorem op_isND : OpR X (compareOp .Is) (rB X.K ca (isND false)) := by
  refine OpR.imp op_isN ?_
  rintro x y H Q ⟨S, L, dx, dy, A, B, d, w, r1, r2, e, q⟩
  unfold isND at e
  split at e
  · cases e
    refine ⟨r2.non_, ?_⟩
    rw [isN_of r1]
    have h := q.flat (.bl _)
    rwa [Bool.bne_false] at h
  · cases e
theorem op_notND : OpR X (compareOp .IsNot) (rB X.K ca (isND true)) := by
  refine OpR.imp op_notN ?_
  rintro x y H Q ⟨S, L, dx, dy, A, B, d, w, r1, r2, e, q⟩
  unfold isND at e
  split at e
  · cases e
    refine ⟨r2.non_, ?_⟩
    rw [isN_of r1]
    have h := q.flat (.bl _)
    rwa [Bool.bne_true] at h
  · cases e
/-- what of a comparison is done by values -/
def B2.gc : B2 → D → D → Option D
  | .in_ => fun a b => (inS a b).map .bl
  | .nin => fun a b => (inS a b).map fun k => .bl (!k)
  | o => o.go
theorem cmpR (ca : CA) (hu : X.A.units + 64 < cLine) {o : B2} {op : CmpOp} (h : o.cm = some op) : OpR X (compareOp op) (rB X.K ca o.gc) := by
  cases o <;> simp only [B2.cm, Option.some.injEq, reduceCtorEq] at h <;> subst h
  · exact op_eqDD hu
  · exact op_neDD hu
  · exact op_ltDD
  · exact cmp_of op_le
  · exact cmp_of op_gt
  · exact cmp_of op_ge
  · exact op_inS
  · exact op_ninS
  · exact op_isND
  · exact op_notND
end
end Hm
end
section
set_option Elab.async false
set_option linter.all false
set_option maxRecDepth 100000
/-! The built-in functions of one value, by trees. -/
namespace Hm
open PySem PySem.Spec PyProof.Rows L2
section
variable {X : Cx} {ca : CA}
theorem maxI_eq : ∀ {ns : List Int} {m : Int}, m ∈ ns → (∀ y, y ∈ ns → y ≤ m) → maxI ns = m
  | [], _, h, _ => nomatch h
  | [a], m, h, _ => by
    have : m = a := by simpa using h
    rw [this]; rfl
  | a :: b :: r, m, h, k => by
    show (if a < maxI (b :: r) then maxI (b :: r) else a) = m
    have hm : maxI (b :: r) ∈ b :: r := maxI_mem (by simp)
    have hk := k _ (List.mem_cons_of_mem _ hm)
    have ha := k a List.mem_cons_self
    rcases List.mem_cons.mp h with e | h
    · subst e
      by_cases q : m < maxI (b :: r)
      · omega
      · rw [if_neg q]
    · have e := maxI_eq (ns := b :: r) h fun y hy => k y (List.mem_cons_of_mem _ hy)
      rw [e]
      split <;> omega
where maxI_mem : ∀ {ns : List Int}, ns ≠ [] → maxI ns ∈ ns
  | [], h => absurd rfl h
  | [a], _ => by simp [maxI]
  | a :: b :: r, _ => by
    show (if a < maxI (b :: r) then maxI (b :: r) else a) ∈ a :: b :: r
    split
    · exact List.mem_cons_of_mem _ (maxI_mem (by simp))
    · exact List.mem_cons_self
theorem minI_eq : ∀ {ns : List Int} {m : Int}, m ∈ ns → (∀ y, y ∈ ns → m ≤ y) → minI ns = m
  | [], _, h, _ => nomatch h
  | [a], m, h, _ => by
    have : m = a := by simpa using h
    rw [this]; rfl
  | a :: b :: r, m, h, k => by
    show (if minI (b :: r) < a then minI (b :: r) else a) = m
    have hm : minI (b :: r) ∈ b :: r := minI_mem (by simp)
    have hk := k _ (List.mem_cons_of_mem _ hm)
    have ha := k a List.mem_cons_self
    rcases List.mem_cons.mp h with e | h
    · subst e
      by_cases q : minI (b :: r) < m
      · omega
      · rw [if_neg q]
    · have e := minI_eq (ns := b :: r) h fun y hy => k y (List.mem_cons_of_mem _ hy)
      rw [e]
      split <;> omega
where minI_mem : ∀ {ns : List Int}, ns ≠ [] → minI ns ∈ ns
  | [], h => absurd rfl h
  | [a], _ => by simp [minI]
  | a :: b :: r, _ => by
    show (if minI (b :: r) < a then minI (b :: r) else a) ∈ a :: b :: r
    split
    · exact List.mem_cons_of_mem _ (minI_mem (by simp))
    · exact List.mem_cons_self
theorem srtI_perm (ns : List Int) : (srtI ns).Perm ns := List.mergeSort_perm _ _
theorem srtI_pw (ns : List Int) : (srtI ns).Pairwise (· ≤ ·) := by
  have h := List.pairwise_mergeSort (le := fun a b : Int => decide (a ≤ b)) (fun a b c h1 h2 => by simp at *; omega) (fun a b => by simp; omega) ns
  exact h.imp fun h => of_decide_eq_true h
theorem srtI_eq {ns ns' : List Int} (hp : ns'.Perm ns) (hs : ns'.Pairwise (· ≤ ·)) : ns' = srtI ns := PySem.W.ksm_same (hp.trans (srtI_perm ns).symm) hs (srtI_pw ns)

/-- the name of the built-in function or type, and what it stands for -/
def U1.fn : U1 → Option (Str × Value)
  | .len => some ("len", .builtin "len")
  | .abs => some ("abs", .builtin "abs")
  | .int => some ("int", .type "int")
  | .str => some ("str", .type "str")
  | .list => some ("list", .type "list")
  | .tuple => some ("tuple", .type "tuple")
  | .sorted => some ("sorted", .builtin "sorted")
  | .sum => some ("sum", .builtin "sum")
  | .min => some ("min", .builtin "min")
  | .max => some ("max", .builtin "max")
  | .any => some ("any", .builtin "any")
  | .all => some ("all", .builtin "all")
  | _ => none
theorem U1.fn_boot {o : U1} {x : Str} {f : Value} (h : o.fn = some (x, f)) : bootBuiltins x = some f ∧ x ≠ "__name__" ∧ (x == ("__debug__" : Str)) = false ∧ ((∃ id, f = .builtin id) ∨ ∃ T, f = .type T) := by
  cases o <;> simp only [U1.fn, Option.some.injEq, Prod.mk.injEq, reduceCtorEq] at h <;> obtain ⟨rfl, rfl⟩ := h <;>
    first
    | exact ⟨by decide +kernel, by decide +kernel, by decide +kernel, .inl ⟨_, rfl⟩⟩
    | exact ⟨by decide +kernel, by decide +kernel, by decide +kernel, .inr ⟨_, rfl⟩⟩
theorem seqI_ {f : List Int → Option D} {d r : D} (e : seqI f d = some r) : ∃ o xs ns, d = .lst o xs ∧ intsOf xs = some ns ∧ f ns = some r := by
  unfold seqI at e
  split at e
  · split at e
    · rename_i e1
      exact ⟨_, _, _, rfl, e1, e⟩
    · cases e
  · cases e
theorem seqB_ {f : List Bool → D} {d r : D} (e : seqB f d = some r) : ∃ o xs ns, d = .lst o xs ∧ blsOf xs = some ns ∧ f ns = r := by
  unfold seqB at e
  split at e
  · split at e
    · rename_i e1
      exact ⟨_, _, _, rfl, e1, by simpa using e⟩
    · cases e
  · cases e
theorem intU_ {f : Int → Option D} {d r : D} (e : intU f d = some r) : ∃ i, d = .int i ∧ f i = some r := by
  unfold intU at e
  split at e
  · exact ⟨_, rfl, e⟩
  · cases e
theorem u_neg : UnR X (unaryOp .USub) (rU1 X.K ca U1.neg.go) := by
  refine UnR.imp un_neg ?_
  rintro x H Q ⟨S, L, dx, A, d, w, r, e, q⟩
  obtain ⟨i, rfl, e⟩ := intU_ e
  cases e
  exact ⟨i, r.int_, q.flat (.int _)⟩
theorem calls1 (hc : X.calm = true) {o : U1} {x : Str} {f : Value} (h : o.fn = some (x, f)) : CallR X f (rC1 X.K ca o.go) := by
  cases o <;> simp only [U1.fn, Option.some.injEq, Prod.mk.injEq, reduceCtorEq] at h <;> obtain ⟨rfl, rfl⟩ := h
  · -- len
    refine CallR.imp (call_len.or call_lenD) ?_
    rintro xs H Q ⟨x, rfl, S, L, dx, A, d, w, r, e, q⟩
    change lenD dx = some d at e
    unfold lenD at e
    split at e
    · split at e
      · rename_i hz
        cases e
        obtain rfl := r.str_
        exact .inl ⟨_, _, rfl, ⟨hz, rfl⟩, q.flat (.int _)⟩
      · cases e
    · cases e
      obtain ⟨a, vs, A', rfl, h1, q1, k1⟩ := r.lst_
      exact .inl ⟨_, vs.length, rfl, .inl ⟨vs, SqL.of h1, rfl⟩, by rw [q1.length]; exact q.flat (.int _)⟩
    · cases e
      obtain ⟨a, vs, A', rfl, h1, q1, k1⟩ := r.tup_
      exact .inl ⟨_, vs.length, rfl, .inr ⟨vs, h1, rfl⟩, by rw [q1.length]; exact q.flat (.int _)⟩
    · cases e
      obtain ⟨a, kvs, A', rfl, h1, h2, q1, k1⟩ := r.dK_
      refine .inr ⟨a, kvs, rfl, h1, ?_⟩
      have hz : kvs.length = _ := (List.length_map (f := fun (p : Key × V) => p.1) (as := kvs)).symm.trans (congrArg List.length h2)
      rw [hz]
      exact q.flat (.int _)
    · cases e
  · refine CallR.imp call_abs ?_
    rintro xs H Q ⟨x, rfl, S, L, dx, A, d, w, r, e, q⟩
    obtain ⟨i, rfl, e⟩ := intU_ e
    cases e
    exact ⟨i, by rw [r.int_], q.flat (.int _)⟩
  · refine CallR.imp call_int1 ?_
    rintro xs H Q ⟨x, rfl, S, L, dx, A, d, w, r, e, q⟩
    change intD dx = some d at e
    unfold intD at e
    split at e
    · cases e
      exact .inl ⟨_, by rw [r.int_], q.flat (.int _)⟩
    · cases e
      exact .inr ⟨_, by rw [r.bl_], q.flat (.int _)⟩
    · cases e
  · refine CallR.imp call_str_int ?_
    rintro xs H Q ⟨x, rfl, S, L, dx, A, d, w, r, e, q⟩
    obtain ⟨i, rfl, e0⟩ := intU_ e
    split at e0
    · rename_i hz
      cases e0
      exact ⟨i, by rw [r.int_], hz, q.flat (.str _)⟩
    · cases e0
  · refine CallR.imp call_list_of ?_
    rintro xs H Q ⟨x, rfl, S, L, dx, A, d, w, r, e, q⟩
    change listD dx = some d at e
    unfold listD at e
    split at e
    · split at e
      · rename_i hz
        cases e
        obtain ⟨a, vs, A', rfl, h1, q1, k1⟩ := r.lst_
        obtain rfl := k1 hz
        exact ⟨a, vs, rfl, .inl (SqL.of h1), fun p hp => q.new w hp fun S' H' hs hh e => .lstO (A := []) e (q1.frame hs hh fun _ h => nomatch h)⟩
      · cases e
    · split at e
      · rename_i hz
        cases e
        obtain ⟨a, vs, A', rfl, h1, q1, k1⟩ := r.tup_
        obtain rfl := k1 hz
        exact ⟨a, vs, rfl, .inr h1, fun p hp => q.new w hp fun S' H' hs hh e => .lstO (A := []) e (q1.frame hs hh fun _ h => nomatch h)⟩
      · cases e
    · cases e
  · refine CallR.imp call_tuple_of ?_
    rintro xs H Q ⟨x, rfl, S, L, dx, A, d, w, r, e, q⟩
    change tupleD dx = some d at e
    unfold tupleD at e
    split at e
    · split at e
      · rename_i hz
        cases e
        obtain ⟨a, vs, A', rfl, h1, q1, k1⟩ := r.lst_
        obtain rfl := k1 hz
        exact ⟨a, vs, rfl, .inl ⟨SqL.of h1, fun p hp => q.newC w hp fun S' H' hs hh e1 e2 => .tupS e1 e2 (q1.frame hs hh fun _ h => nomatch h)⟩⟩
      · cases e
    · split at e
      · rename_i hz
        cases e
        have hn : A = [] := r.nil_of (by simp [D.isC, hz])
        subst hn
        obtain ⟨a, vs, A', rfl, h1, q1, k1⟩ := id r.tup_
        exact ⟨a, vs, rfl, .inr ⟨h1, q.flat r⟩⟩
      · cases e
    · cases e
  · refine CallR.imp cr_sortedI ?_
    rintro xs H Q ⟨x, rfl, S, L, dx, A, d, w, r, e, q⟩
    obtain ⟨o, xs, ns, rfl, e1, e2⟩ := seqI_ e
    cases e2
    obtain ⟨a, vs, A', rfl, h1, q1, k1⟩ := r.lst_
    obtain rfl := q1.ints e1
    refine ⟨a, ns, rfl, SqL.of h1, fun ns' p hp hs hn => ?_⟩
    rw [srtI_eq hp hs]
    exact q.new w hn fun S' H' hs hh e => .lstO (A := []) e (reps_ints _)
  · refine CallR.imp (cr_sum hc) ?_
    rintro xs H Q ⟨x, rfl, S, L, dx, A, d, w, r, e, q⟩
    obtain ⟨o, xs, ns, rfl, e1, e2⟩ := seqI_ e
    cases e2
    obtain ⟨a, vs, A', rfl, h1, q1, k1⟩ := r.lst_
    obtain rfl := q1.ints e1
    exact ⟨a, ns, rfl, SqL.of h1, q.flat (.int _)⟩
  · refine CallR.imp (cr_min hc) ?_
    rintro xs H Q ⟨x, rfl, S, L, dx, A, d, w, r, e, q⟩
    obtain ⟨o, xs, ns, rfl, e1, e2⟩ := seqI_ e
    split at e2
    · cases e2
    · rename_i hne
      cases e2
      obtain ⟨a, vs, A', rfl, h1, q1, k1⟩ := r.lst_
      obtain rfl := q1.ints e1
      refine ⟨a, ns, rfl, SqL.of h1, List.length_pos_iff.mpr (fun z => hne (by rw [z]; rfl)), fun m h1 h2 => ?_⟩
      rw [← minI_eq h1 h2]
      exact q.flat (.int _)
  · refine CallR.imp (cr_max hc) ?_
    rintro xs H Q ⟨x, rfl, S, L, dx, A, d, w, r, e, q⟩
    obtain ⟨o, xs, ns, rfl, e1, e2⟩ := seqI_ e
    split at e2
    · cases e2
    · rename_i hne
      cases e2
      obtain ⟨a, vs, A', rfl, h1, q1, k1⟩ := r.lst_
      obtain rfl := q1.ints e1
      refine ⟨a, ns, rfl, SqL.of h1, List.length_pos_iff.mpr (fun z => hne (by rw [z]; rfl)), fun m h1 h2 => ?_⟩
      rw [← maxI_eq h1 h2]
      exact q.flat (.int _)
  · refine CallR.imp (cr_any hc) ?_
    rintro xs H Q ⟨x, rfl, S, L, dx, A, d, w, r, e, q⟩
    obtain ⟨o, xs, ns, rfl, e1, rfl⟩ := seqB_ e
    obtain ⟨a, vs, A', rfl, h1, q1, k1⟩ := r.lst_
    obtain rfl := q1.bls e1
    exact ⟨a, ns, rfl, SqL.of h1, q.flat (.bl _)⟩
  · refine CallR.imp (cr_all hc) ?_
    rintro xs H Q ⟨x, rfl, S, L, dx, A, d, w, r, e, q⟩
    obtain ⟨o, xs, ns, rfl, e1, rfl⟩ := seqB_ e
    obtain ⟨a, vs, A', rfl, h1, q1, k1⟩ := r.lst_
    obtain rfl := q1.bls e1
    exact ⟨a, ns, rfl, SqL.of h1, q.flat (.bl _)⟩
/-! ### min and max of two -/
def B2.f2 : B2 → Option (Str × String)
  | .min2 => some ("min", "min")
  | .max2 => some ("max", "max")
  | _ => none
theorem B2.f2_boot {o : B2} {x : Str} {f : String} (h : o.f2 = some (x, f)) : bootBuiltins x = some (.builtin f) ∧ x ≠ "__name__" ∧ (x == ("__debug__" : Str)) = false := by
  cases o <;> simp only [B2.f2, Option.some.injEq, Prod.mk.injEq, reduceCtorEq] at h <;> obtain ⟨rfl, rfl⟩ := h <;> exact ⟨by decide +kernel, by decide +kernel, by decide +kernel⟩
theorem calls2 (hc : X.calm = true) {o : B2} {x : Str} {f : String} (h : o.f2 = some (x, f)) : CallR X (.builtin f) (rC2 X.K ca o.go) := by
  cases o <;> simp only [B2.f2, Option.some.injEq, Prod.mk.injEq, reduceCtorEq] at h <;> obtain ⟨rfl, rfl⟩ := h
  · refine CallR.imp (call_min2 hc) ?_
    rintro xs H Q ⟨x, y, rfl, S, L, dx, dy, A, B, d, w, r1, r2, e, q⟩
    change ariD _ _ dx dy = some d at e
    unfold ariD at e
    split at e
    · split at e
      · cases e
        exact ⟨_, _, by rw [r1.int_, r2.int_], q.flat (.int _)⟩
      · cases e
    · cases e
  · refine CallR.imp (call_max2 hc) ?_
    rintro xs H Q ⟨x, y, rfl, S, L, dx, dy, A, B, d, w, r1, r2, e, q⟩
    change ariD _ _ dx dy = some d at e
    unfold ariD at e
    split at e
    · split at e
      · cases e
        exact ⟨_, _, by rw [r1.int_, r2.int_], q.flat (.int _)⟩
      · cases e
    · cases e
/-! ### isinstance -/
def Ty.n : Ty → Option (Str × String)
  | .int => some ("int", "int")
  | .bool => some ("bool", "bool")
  | .str => some ("str", "str")
  | .list => some ("list", "list")
  | .tuple => some ("tuple", "tuple")
  | .dict => some ("dict", "dict")
  | .own _ => none
theorem Ty.n_boot {t : Ty} {x : Str} {s : String} (h : t.n = some (x, s)) : bootBuiltins x = some (.type s) ∧ x ≠ "__name__" ∧ (x == ("__debug__" : Str)) = false := by
  cases t <;> simp only [Ty.n, Option.some.injEq, Prod.mk.injEq, reduceCtorEq] at h <;> obtain ⟨rfl, rfl⟩ := h <;> exact ⟨by decide +kernel, by decide +kernel, by decide +kernel⟩
theorem isi_ty {S : Own} {H : Hp} {K : PySem.W.Frag} {v : V} {d : D} {A : List Addr} (r : Rep K ca S H v d A) {t : Ty} {b : Bool} (e : d.isi t = some b) : ∃ u : Value, TyX K H v u ∧ ∀ (t : Ty) (b : Bool) (x : Str) (s : String), d.isi t = some b → t.n = some (x, s) → PySem.W.kitOne K u (.type s) = some b := by
  cases r with
  | non =>
    refine ⟨_, .base .non, fun t b x s e h => kit_ty ?_⟩
    cases t <;> simp only [Ty.n, D.isi, Option.some.injEq, Prod.mk.injEq, reduceCtorEq] at h e <;> obtain ⟨rfl, rfl⟩ := h <;> subst e <;> decide +kernel
  | bl k =>
    refine ⟨_, .base (.bl k), fun t b x s e h => kit_ty ?_⟩
    cases t <;> simp only [Ty.n, D.isi, Option.some.injEq, Prod.mk.injEq, reduceCtorEq] at h e <;> obtain ⟨rfl, rfl⟩ := h <;> subst e <;> decide +kernel
  | int k =>
    refine ⟨_, .base (.int k), fun t b x s e h => kit_ty ?_⟩
    cases t <;> simp only [Ty.n, D.isi, Option.some.injEq, Prod.mk.injEq, reduceCtorEq] at h e <;> obtain ⟨rfl, rfl⟩ := h <;> subst e <;> decide +kernel
  | str k =>
    refine ⟨_, .base (.str k), fun t b x s e h => kit_ty ?_⟩
    cases t <;> simp only [Ty.n, D.isi, Option.some.injEq, Prod.mk.injEq, reduceCtorEq] at h e <;> obtain ⟨rfl, rfl⟩ := h <;> subst e <;> decide +kernel
  | scrS | scrW => simp [D.isi] at e
  | lstS s h q =>
    refine ⟨_, .base (.lst h), fun t b x s e h => kit_ty ?_⟩
    cases t <;> simp only [Ty.n, D.isi, Option.some.injEq, Prod.mk.injEq, reduceCtorEq] at h e <;> obtain ⟨rfl, rfl⟩ := h <;> subst e <;> decide +kernel
  | lstO h q =>
    refine ⟨_, .base (.lst h), fun t b x s e h => kit_ty ?_⟩
    cases t <;> simp only [Ty.n, D.isi, Option.some.injEq, Prod.mk.injEq, reduceCtorEq] at h e <;> obtain ⟨rfl, rfl⟩ := h <;> subst e <;> decide +kernel
  | tupS s h q =>
    refine ⟨_, .base (.tup h), fun t b x s e h => kit_ty ?_⟩
    cases t <;> simp only [Ty.n, D.isi, Option.some.injEq, Prod.mk.injEq, reduceCtorEq] at h e <;> obtain ⟨rfl, rfl⟩ := h <;> subst e <;> decide +kernel
  | tupO h q =>
    refine ⟨_, .base (.tup h), fun t b x s e h => kit_ty ?_⟩
    cases t <;> simp only [Ty.n, D.isi, Option.some.injEq, Prod.mk.injEq, reduceCtorEq] at h e <;> obtain ⟨rfl, rfl⟩ := h <;> subst e <;> decide +kernel
  | tupW h q =>
    obtain ⟨o, its, n, h1, h2, _⟩ := h
    refine ⟨_, .kTuple h1 h2, fun t b x s e h => kit_ty ?_⟩
    cases t <;> simp only [Ty.n, D.isi, Option.some.injEq, Prod.mk.injEq, reduceCtorEq] at h e <;> obtain ⟨rfl, rfl⟩ := h <;> subst e <;> decide +kernel
  | dKS s h e1 e2 q =>
    refine ⟨_, .base (.dK h), fun t b x s e h => kit_ty ?_⟩
    cases t <;> simp only [Ty.n, D.isi, Option.some.injEq, Prod.mk.injEq, reduceCtorEq] at h e <;> obtain ⟨rfl, rfl⟩ := h <;> subst e <;> decide +kernel
  | dKO h e1 e2 q =>
    refine ⟨_, .base (.dK h), fun t b x s e h => kit_ty ?_⟩
    cases t <;> simp only [Ty.n, D.isi, Option.some.injEq, Prod.mk.injEq, reduceCtorEq] at h e <;> obtain ⟨rfl, rfl⟩ := h <;> subst e <;> decide +kernel
  | dTS | dTO | objS | objO => simp [D.isi] at e
end
end Hm
end
section
set_option Elab.async false
set_option linter.all false
set_option maxRecDepth 100000
set_option maxHeartbeats 4000000
/-! sorted(set(a list of ints)); lines of two rules of the layer, turned to lists of any length. -/
namespace L2
open PySem PySem.Spec PyProof.Rows
section
variable {P : Program} {w : World} {A : Around} {E : Value → Shared → Prop} {s : Shared}
set_option maxRecDepth 100000 in
set_option maxHeartbeats 3200000 in
theorem call_set_lst {l : Addr} {items : Array Value} (ns : List Int) {Q : Value → Shared → Prop} (hh : A.handled = none) (hl : s.heap.IsList l items) (hit : IntsAre items.toList ns) (hb : ns.length + 1 < scanBound)
    (h : ∀ (h' : Heap) (tk c : Nat), SetR w h' s.heap.objs.size (fun j => decide (j ∈ ns)) c → c ≤ ns.length → (∀ b o, s.heap.get? b = some o → h'.get? b = some o) → Q (.ref s.heap.objs.size) { s with heap := h', toks := tk }) :
    wpAny (model P w) A (call (.type "set") [.ref l]) Q E s := by
  have hisz : items.size = ns.length := by
    have q := IntsAre.length hit
    rw [Array.length_toList] at q
    exact q
  obtain ⟨c, tl, hmro⟩ := F.called_set.mro
  have hmade := F.called_set.made
  have hsub := F.called_set.sub
  refine wpAny_call (codeAny_of_tree ?_)
  show wpAny _ _ (callAny (.type "set") _) _ _ _
  refine wpAny_pure ⟨Code.quiet_builtin _ (by decide +kernel), codeAny_builtin F.entry_type_call ?_⟩
  rw [Around.under_plain (weight_type_call_type "set" [.ref l] []) rfl]
  have h1 := F.called_set.notType
  have h2 := F.called_set.canCreate
  have hct := F.typeCall_set_1 (.ref l)
  repeat (any_goals (first | assumption | wp_step))

  refine codeAny_mono (code_set_led1 (.ref l) (E := E) (Q₁ := fun obj s₁ => obj = .ref s.heap.objs.size ∧ s₁ = { s with heap := s.heap.push { cls := .type "set", dict := none, data := .set #[] 0 (.fresh 0 0 (!w.params.followText "set-order")) } }) ⟨rfl, rfl⟩) fun r s₁ hr => ?_
  cases r with
  | error e => exact hr
  | ok fl =>
    cases fl with
    | ret obj =>
      obtain ⟨rfl, rfl⟩ := hr
      have hS : (s.heap.push { cls := .type "set", dict := none, data := .set #[] 0 (.fresh 0 0 (!w.params.followText "set-order")) }).get? s.heap.objs.size = some { cls := .type "set", dict := none, data := .set #[] 0 (.fresh 0 0 (!w.params.followText "set-order")) } := Heap.get?_push_size _ rfl
      have hT : Shared.TypeIs { s with heap := s.heap.push { cls := .type "set", dict := none, data := .set #[] 0 (.fresh 0 0 (!w.params.followText "set-order")) } } (.ref s.heap.objs.size) "set" := ⟨_, hS, rfl⟩
      have hli := F.called_set.init.lookup
      have hbi := F.called_set.init.bind (.ref s.heap.objs.size)
      repeat (any_goals (first | assumption | wp_step))

      refine codeAny_mono (codeAny_call_builtin (R := wants (fun r s₂ => r = .none ∧ ∃ h' tk c, s₂ = { s with heap := h', toks := tk } ∧ SetR w h' s.heap.objs.size (fun j => decide (j ∈ ns)) c ∧ c ≤ ns.length ∧
          (∀ b o, s.heap.get? b = some o → h'.get? b = some o)) E) F.called_set.init.plain F.entry_set_init (check_set_init_1 hT ?_)) fun r₂ s₂ hr₂ => ?_
      · obtain ⟨ol, hol, hcl, nl, hdl⟩ := hl
        obtain ⟨ocls, odict, odata, oslots⟩ := ol
        simp only at hcl hdl
        subst hcl; subst hdl
        have hol' : (s.heap.push { cls := .type "set", dict := none, data := .set #[] 0 (.fresh 0 0 (!w.params.followText "set-order")) }).get? l = some { cls := .type "list", dict := odict, data := .seq items nl, slots := oslots } := Heap.get?_push_of_some _ hol
        have hsls := F.sub_list_set
        have hslf := F.sub_list_frozenset
        have hne : (Value.type "list" == Value.type "dict") = false := by decide
        have hl1 : (s.heap.push { cls := .type "set", dict := none, data := .set #[] 0 (.fresh 0 0 (!w.params.followText "set-order")) }).IsList l items := ⟨_, hol', rfl, nl, rfl⟩
        unfold Builtin.«set.__init__» noKeywords Builtin.Frozenset.updateFrom
        generalize hPI : pyIter = PI
        wp_walk
        subst hPI

        refine wpAny_pyIter_list hl1 ?_
        refine wpAny_bind (wpAny_runValue ?_)
        have hlS : l < s.heap.objs.size := Heap.lt_size hol
        have hh3 : A.in1.in1.in1.handled = none := by simp [hh]
        have hz1 : (s.heap.push { cls := .type "set", dict := none, data := .set #[] 0 (.fresh 0 0 (!w.params.followText "set-order")) }).objs.size = s.heap.objs.size + 1 := Heap.size_push ..
        have hneI : l ≠ (s.heap.push { cls := .type "set", dict := none, data := .set #[] 0 (.fresh 0 0 (!w.params.followText "set-order")) }).objs.size := by
          rw [Heap.size_push]; exact Nat.ne_of_lt (Nat.lt_succ_of_lt hlS)
        have hSf : s.heap.objs.size ∉ [(s.heap.push { cls := .type "set", dict := none, data := .set #[] 0 (.fresh 0 0 (!w.params.followText "set-order")) }).objs.size, l] := by
          rw [Heap.size_push]; simp only [List.mem_cons, List.mem_singleton, List.not_mem_nil, or_false, not_or]
          exact ⟨Nat.ne_of_lt (Nat.lt_succ_self _), Nat.ne_of_gt hlS⟩
        have hval : ∀ (i : Nat) (v : Value), items[i]? = some v → ∃ k t, ns[i]? = some k ∧ v = .int k t := fun i v hv => by
          have hi : i < ns.length := by rw [← hisz]; exact (Array.getElem?_eq_some_iff.mp hv).1
          obtain ⟨t, e⟩ := PyProof.Rows.IntsAre.int_at hit i v (by rw [Array.getElem?_toList]; exact hv)
          refine ⟨ns[i], t, List.getElem?_eq_getElem hi, ?_⟩
          rw [e, List.getD_eq_getElem?_getD, List.getElem?_eq_getElem hi] <;> rfl
        refine set_update_ints ((Walks.list hh3 _ l hneI items).toS) s.heap.objs.size
          hSf ns hisz hb hval (items.size - 0) 0 _ (by omega) (Nat.zero_le _)
          ⟨⟨_, Heap.get?_push_size _ rfl, rfl, rfl⟩, (hl1.push _)⟩ ?hS0 ?hR
        case hS0 =>
          have hget : ((s.heap.push { cls := .type "set", dict := none, data := .set #[] 0 (.fresh 0 0 (!w.params.followText "set-order")) }).push { cls := .type "list_iterator", data := .fields #[.ref l, .int 0 0] }).get? s.heap.objs.size
              = some { cls := .type "set", dict := none, data := .set #[] 0 (.fresh 0 0 (!w.params.followText "set-order")) } := Heap.get?_push_of_some _ hS
          exact ⟨0, Nat.le_refl 0, setR_new_at hget⟩
        case hR =>
          intro s' c' hm hc' hS'
          obtain ⟨h', g2, d', tk', os'⟩ := s'
          have eg : g2 = s.gens := hm.gens
          have ed : d' = s.drawn := hm.drawn
          have eo : os' = s.os := hm.os
          subst eg; subst ed; subst eo
          show wpAny _ _ _ _ _ _
          refine wpAny_pure ?_
          show wpAny _ _ (ret Value.none) _ _ _
          rw [hisz] at hc'
          refine wpAny_pure ⟨rfl, h', tk', c', rfl, hS', hc', fun b o e => ?_⟩
          have hb0 : b < s.heap.objs.size := Heap.lt_size e
          have hb1 : b ≠ s.heap.objs.size := Nat.ne_of_lt hb0
          have hb2 : b ≠ (s.heap.push { cls := .type "set", dict := none, data := .set #[] 0 (.fresh 0 0 (!w.params.followText "set-order")) }).objs.size := by
            rw [Heap.size_push]; exact Nat.ne_of_lt (Nat.lt_succ_of_lt hb0)
          exact hm.heap b o (by simp only [List.mem_cons, List.mem_singleton, List.not_mem_nil, or_false, not_or]; exact ⟨hb1, hb2⟩) (Heap.get?_push_of_some _ (Heap.get?_push_of_some _ e))

      · cases r₂ with
        | error e => exact hr₂
        | ok fl₂ =>
          cases fl₂ with
          | ret r =>
            obtain ⟨rfl, h', tk, c', rfl, hS', hc', hk'⟩ := hr₂
            repeat (any_goals (first | assumption | wp_step))
            exact h _ _ _ hS' hc' hk'
          | _ => exact hr₂.elim
    | _ => exact hr.elim

theorem sorted_setI {S : Int → Bool} {n : Nat} {Q : Value → Shared → Prop} (R : SetR w s.heap a S n) (hh : A.handled = none)
    (hQ : ∀ s' p (out : Array Value) (c : Nat) (ns : List Int), (∀ b o, s.heap.get? b = some o → s'.heap.get? b = some o) → s'.gens = s.gens → s'.os = s.os → s.heap.objs.size ≤ p →
      s'.heap.get? p = some (seqObj "list" out c) → IntsAre out.toList ns → ns.Pairwise (· < ·) → (∀ k, k ∈ ns ↔ S k = true) → ns.length = n → Q (.ref p) s') :
    wpAny (model P w) A (call (.builtin "sorted") [.ref a]) Q E s := by
  obtain ⟨o, es, ep, t, ho, hex, hd, g, nd, hm, hb, hf, hn, hr, hl⟩ := R
  refine Calls.call_function_entry kind_sorted plain_sorted entry_sorted (args_sorted1 _) ?_
  unfold Builtin.«sorted»
  refine wpAny_bind (m := checkCount "sorted" 1 1 _) (wpAny_pure ?_)
  refine wpAny_bind (collect_set (A := A.in1) hh ⟨o, ho, hex.1, hd⟩ hf hb hr hl fun s1 vs k1 hz g1 o1 pm => ?_)
  have hvl : vs.length = n := by rw [pm.length_eq, List.length_map, Array.length_toList]; exact hn
  have hI : IntsAre vs (vs.map Builtin.Re.reRawOf) := ints_of vs fun v hv => by
    obtain ⟨e, he, q⟩ := List.mem_map.mp (pm.mem_iff.mp hv)
    obtain ⟨k, tk, h1, _⟩ := g e he
    exact ⟨k, tk, by rw [← q]; exact h1⟩
  have pk : (vs.map Builtin.Re.reRawOf).Perm (es.toList.map keyOf) := by
    have q := pm.map Builtin.Re.reRawOf
    rw [List.map_map] at q
    exact q
  have hnz : vs.length ≤ sizeLine := by
    have : n < scanBound := by rw [← hn]; exact hb
    rw [hvl, sizeLine_eq]
    unfold scanBound at this
    omega
  refine wpAny_bind (wpAny_newList ?_ hnz)
  have hoL : (s1.heap.push (seqObj "list" vs.toArray 0)).get? s1.heap.objs.size = some (seqObj "list" vs.toArray 0) := Heap.get?_push_size _ rfl
  refine wpAny_bind (wpAny_holding (wpAny_call_entry slot_list_sort ⟨_, hoL, rfl⟩ entry_list_sort (SrtO.list_sort_ord SrtO.swo_int hoL hnz (fun h2 => SrtO.ints_sortable hI h2) fun out h1 h2 => ⟨_, rfl, ?_⟩) (args_list_sort _)))
  obtain ⟨a1, a2, a3⟩ := SrtO.ints_out hI h1 h2
  obtain ⟨c, hc⟩ := sortedHeap_at (vs := vs) (out := out.toArray) hoL
  have pn : (out.map SrtO.iv).Perm (es.toList.map keyOf) := a2.trans pk
  refine wpAny_pure ⟨_, rfl, hQ _ s1.heap.objs.size out.toArray c (out.map SrtO.iv) (fun b u e => ?_) g1 o1 hz hc (by simpa using a1) (lt_of_le_nodup _ a3 (pn.nodup_iff.mpr nd)) (fun k => by rw [pn.mem_iff, ← hm k]) ?_⟩
  · have q := k1 b u e
    have hlt := Heap.lt_size q
    show (sortedHeap (s1.heap.push (seqObj "list" vs.toArray 0)) s1.heap.objs.size vs out.toArray).get? b = some u
    rw [sortedHeap_old (Nat.ne_of_lt hlt) (by rw [size_push']; exact Nat.lt_succ_of_lt hlt)]
    exact Heap.get?_push_of_some _ q
  · rw [pn.length_eq, List.length_map, Array.length_toList]; exact hn
end
end L2
end
section
set_option Elab.async false
set_option linter.all false
set_option maxRecDepth 100000
/-! sorted(set(a list of ints)), as an expression. -/
namespace Hm
open PySem PySem.Spec PyProof.Rows L2
def tSortedSet (K : PySem.W.Frag) (ta : TE) : TE := fun σ H Q => ta σ H fun x H1 => ∃ (l : Addr) (ns : List Int), x = .ref l ∧ SqL K H1 l (ns.map V.int) ∧ ns.length + 1 < scanBound ∧
  ∀ (ns' : List Int) (p : Addr), ns'.Pairwise (· < ·) → (∀ k : Int, k ∈ ns' ↔ k ∈ ns) → H1 p = none → Q (.ref p) (upd H1 p (.lst (ns'.map V.int)))
theorem boot_sortedS : bootBuiltins "sorted" = some (.builtin "sorted") := by decide +kernel
theorem boot_setS : bootBuiltins "set" = some (.type "set") := by decide +kernel
theorem pe_sortedSet {X : Cx} {a : Expr} {ta : TE} {p p2 q pos : Pos} (hg : Gl X "sorted") (hm : X.mg "sorted" = none) (hg2 : Gl X "set") (hm2 : X.mg "set" = none) (ha : PE X a ta) (hc : X.calm = true)
    (na : starEach [a] X.env = (false, eval a X.env) :: starEach [] X.env) : PE X (.Call (.Name "sorted" p) [.Call (.Name "set" p2) [a] [] q] [] pos) (tSortedSet X.K ta) := by
  refine ⟨fun pins s σ H Q I h => ?_⟩
  refine Call_ (ld_blt I hg hm boot_sortedS ?_)
  refine PyProof.Rows.callWith_builtin1 (PyProof.Rows.args_cons ?_ rfl) rfl rfl
  refine Call_ (ld_blt I hg2 hm2 boot_setS ?_)
  refine PyProof.Rows.callWith_type1 (PyProof.Rows.args_cons (thn (ha.run pins s σ H _ I h) fun v s1 ⟨x, H1, I1, r1, q1⟩ => PyProof.Rows.args_nil ?_) na) na rfl
  obtain ⟨l, ns, rfl, hq, hl, q1⟩ := q1
  cases r1
  obtain ⟨its, r, pl, hz⟩ := I1.list hq
  refine call_set_lst (P := X.prog) (w := X.w) ns (I1.ok.hd hc) pl.isList (by simpa using r.ints) hl fun h' tk c hS hcl hk => ?_
  refine PyProof.Rows.args_nil ?_
  have I2 : Inv X pins σ H1 { s1 with heap := h', toks := tk } := I1.kept hk
  refine sorted_setI hS (I2.ok.hd hc) fun s' p' out c' ns' k g o hp hg' hi hs hm hn => ?_
  have hlen : (ns'.map V.int).length ≤ sizeLine := by
    rw [List.length_map, hn, sizeLine_eq]
    unfold scanBound at hl
    omega
  have hnone : H1 p' = none := I2.hok.fresh hp
  have e : s' = { ({ s1 with heap := h', toks := tk } : Shared) with heap := s'.heap, gens := s'.gens, drawn := s'.drawn, toks := s'.toks } := by
    cases s'
    cases s1
    cases o
    rfl
  have J : Inv X pins σ (upd H1 p' (.lst (ns'.map V.int))) { ({ s1 with heap := h', toks := tk } : Shared) with heap := s'.heap, gens := s'.gens, drawn := s'.drawn, toks := s'.toks } :=
    I2.call (ch := []) (Un.laid k hp hnone) (I2.hok.laid k hp ⟨hlen, out.toList, c', vals_of_ints hi, hg'⟩) (by rw [g]; exact I2.bare) (fun _ z => nomatch z)
  rw [e]
  exact ⟨.ref p', _, J, rfl, q1 ns' p' hs (fun k => by rw [hm k, decide_eq_true_eq]) hnone⟩
end Hm
end
section
set_option Elab.async false
set_option linter.all false
set_option maxRecDepth 100000
/-! The checker: a Python expression is the small language's; how its parts are asked one behind another. -/
namespace Hm
open PySem PySem.Spec PyProof.Rows L2

/-! ### the checker -/
structure Ctx where
  N : List Str
  sc : Scope
  fn : Str → Bool
/-- what the module's names stand for -/
structure Tab where
  fs : List (Str × Nat)
  cs : List (Str × Cn)
  bl : List Str
def okN (x : Str) : Bool := !decide (x = "__debug__") && !decide (x = "__classdict__") && !decide (x = "__name__")
def visB (c : Ctx) (i : Nat) (x : Str) : Bool := decide (c.N[i]? = some x) && ((match c.sc.names.lookup x with
  | some .local => true
  | some .cell => true
  | some .free => true
  | _ => false) && okN x)
/-- a name that may be stored -/
def locB (c : Ctx) (i : Nat) (x : Str) : Bool := decide (c.N[i]? = some x) && ((match c.sc.names.lookup x with
  | some .local => true
  | some .cell => c.fn x
  | _ => false) && okN x)
def glB (c : Ctx) (x : Str) : Bool := decide (c.sc.names.lookup x = some .globalImplicit) && okN x
def blB (t : Tab) (c : Ctx) (x : Str) : Bool := glB c x && decide (x ∈ t.bl)
def cnB : Cn → Const → Bool
  | .non, .none => true
  | .bl b, .bool c => b == c
  | .int i, .int j => decide (i = j)
  | .str x, .str y => decide (x = y)
  | _, _ => false
def notSt : Expr → Bool
  | .Starred _ _ => false
  | _ => true
def notSl : Expr → Bool
  | .Slice _ _ _ _ => false
  | _ => true
/-- is asked as a test by its value's truth -/
def plainT : Expr → Bool
  | .BoolOp _ _ _ => false
  | .UnaryOp .Not _ _ => false
  | .Compare _ _ _ _ => false
  | .IfExp _ _ _ _ => false
  | _ => true
def notSet : Expr → Bool
  | .Set _ _ _ => false
  | _ => true
def notSu : Expr → Bool
  | .Call (.Name id _) [] [] _ => !decide (id = "super")
  | _ => true
def mTy (t : Tab) (c : Ctx) : Ty → Expr → Bool
  | k, .Name x _ => match k.n with
    | some (y, _) => decide (x = y) && blB t c y
    | none => false
  | _, _ => false
def mTys (t : Tab) (c : Ctx) : List Ty → List Expr → Bool
  | [], [] => true
  | k :: ks, e :: es => notSt e && (mTy t c k e && mTys t c ks es)
  | _, _ => false
def relC (scope : Scope) (c : Ctx) : Ctx := { c with sc := relS scope c.sc, fn := fun x => scope.names.lookup x == some .cell }
def ownOf (N : List Str) (tg : List Nat) : List (Str × Nat) := tg.map fun i => (N.getD i Str.empty, i)
def mTg (c : Ctx) : List Nat → Expr → Bool
  | [i], .Name x _ => locB c i x
  | [i, j], .Tuple [.Name x _, .Name y _] _ _ => locB c i x && (locB c j y && decide (i ≠ j))
  | [i, j, k], .Tuple [.Name x _, .Name y _, .Name z _] _ _ => locB c i x && (locB c j y && (locB c k z && (decide (i ≠ j) && (decide (i ≠ k) && decide (j ≠ k)))))
  | _, _ => false
mutual
def mE (t : Tab) : E → Ctx → Expr → Bool
  | .c k, _, e => (match e with
    | .Constant v _ _ => cnB k v
    | _ => false)
  | .g x k, c, e => (match e with
    | .Name y _ => decide (x = y) && (glB c x && decide ((x, k) ∈ t.cs))
    | _ => false)
  | .v i, c, e => (match e with
    | .Name x _ => visB c i x
    | _ => false)
  | .mv i, c, e => (match e with
    | .Name x _ => visB c i x
    | _ => false)
  | .u o a, c, e => (match e with
    | .UnaryOp .USub x _ => decide (o = .neg) && mE t a c x
    | .Call (.Name f _) args [] _ => (match o, args with
      | .isi [k], [x, y] => decide (f = "isinstance") && (blB t c f && (notSt x && (notSt y && (mE t a c x && mTy t c k y))))
      | .isi ks, [x, .Tuple ys _ _] => decide (f = "isinstance") && (blB t c f && (notSt x && (!ks.isEmpty && (decide (ks.length ≤ 1000) && (mE t a c x && mTys t c ks ys)))))
      | .sortedSet, [.Call (.Name g _) [x] [] _] => decide (f = "sorted") && (blB t c f && (decide (g = "set") && (blB t c g && (notSt x && mE t a c x))))
      | o, [x] => (match o.fn with
        | some (nm, _) => decide (f = nm) && (blB t c f && (notSt x && mE t a c x))
        | none => false)
      | _, _ => false)
    | .Subscript x (.Slice none none (some (.UnaryOp .USub (.Constant (.int k) _ _) _)) _) _ => decide (o = .rev) && (decide (k = 1) && mE t a c x)
    | _ => false)
  | .b o x y, c, e => (match e with
    | .BinOp a op b _ => decide (o.op = some op) && (mE t x c a && mE t y c b)
    | .Compare a [op] [b] _ => decide (o.cm = some op) && (!behindInMarks op b && (mE t x c a && mE t y c b))
    | .Call (.Name f _) [a, b] [] _ => (match o.f2 with
      | some (nm, _) => decide (f = nm) && (blB t c f && (notSt a && (notSt b && (mE t x c a && mE t y c b))))
      | none => false)
    | _ => false)
  | .ix x y, c, e => (match e with
    | .Subscript a b _ => notSl b && (mE t x c a && mE t y c b)
    | _ => false)
  | .sl x lo hi, c, e => (match e with
    | .Subscript a (.Slice l h none _) _ => mE t x c a && (mEo t lo c l && mEo t hi c h)
    | _ => false)
  | .ch o p x y z, c, e => (match e with
    | .Compare a [op, op'] [b, d] _ => decide (o.cm = some op) && (decide (p.cm = some op') && (!lastMarks [op, op'] [b, d] && (mE t x c a && (mE t y c b && mE t z c d))))
    | _ => false)
  | .tb t', c, e => !plainT e && mT t t' c e
  | .ife k x y, c, e => (match e with
    | .IfExp a b d _ => mT t k c a && (mE t x c b && mE t y c d)
    | _ => false)
  | .tup es, c, e => (match e with
    | .Tuple xs _ _ => mEs t es c xs
    | _ => false)
  | .lst es, c, e => (match e with
    | .List xs _ => mEs t es c xs
    | _ => false)
  | .call f es, c, e => (match e with
    | .Call (.Name x _) (a :: l) [] _ => glB c x && (decide (t.fs[f]? = some (x, l.length + 1)) && mEs t es c (a :: l))
    | _ => false)
  | .io i, c, e => (match e with
    | .Name x _ => visB c i x
    | _ => false)
  | .ln i, c, e => (match e with
    | .Name x _ => visB c i x
    | _ => false)
  | .idx x y, c, e => (match e with
    | .Call (.Attribute a m p) [b] [] q => decide (m = "index") && (decide (p.endLine = q.line) && (notSu a && (notSt b && (mE t x c a && mE t y c b))))
    | _ => false)
  | .lc el tg it cs, c, e => (match e with
    | .ListComp a [⟨g, i, ifs, 0⟩] scope _ => notSet i && (blkC c.N c.sc scope (ownOf c.N tg) && (mTg (relC scope c) tg g && (mIt t it c g i && (mTo t cs (relC scope c) ifs && mE t el (relC scope c) a))))
    | _ => false)
  | .dE, _, e => (match e with
    | .Dict [] [] _ => true
    | _ => false)
  | .sv i, c, e => (match e with
    | .Name x _ => visB c i x
    | _ => false)
  | .lr a, c, e => (match e with
    | .Call (.Name f _) [.Call (.Name g _) [x] [] _] [] _ => decide (f = "list") && (blB t c f && (decide (g = "range") && (blB t c g && (notSt x && mE t a c x))))
    | _ => false)
  | .nev, _, _ => true
def mEo (t : Tab) : Eo → Ctx → Option Expr → Bool
  | .no, _, none => true
  | .yes e, c, some a => mE t e c a
  | _, _, _ => false
def mEs (t : Tab) : Es → Ctx → List Expr → Bool
  | .nil, _, [] => true
  | .cons e r, c, a :: l => notSt a && (mE t e c a && mEs t r c l)
  | _, _, _ => false
def mT (t : Tab) : T → Ctx → Expr → Bool
  | .e e, c, a => (match a with
    | .Compare _ _ _ _ => (match e with
      | .b _ _ _ => true
      | .ch _ _ _ _ _ => true
      | _ => false) && mE t e c a
    | _ => plainT a && mE t e c a)
  | .one x, c, a => (match a with
    | .BoolOp _ [b] _ => mT t x c b
    | _ => false)
  | .an x y, c, a => (match a with
    | .BoolOp .And (b :: d :: r) p => mT t x c b && mT t y c (.BoolOp .And (d :: r) p)
    | _ => false)
  | .or x y, c, a => (match a with
    | .BoolOp .Or (b :: d :: r) p => mT t x c b && mT t y c (.BoolOp .Or (d :: r) p)
    | _ => false)
  | .nt x, c, a => (match a with
    | .UnaryOp .Not b _ => mT t x c b
    | _ => false)
def mTo (t : Tab) : To → Ctx → List Expr → Bool
  | .no, _, [] => true
  | .yes e, c, [a] => mT t e c a
  | _, _, _ => false
def mIt (t : Tab) : It → Ctx → Expr → Expr → Bool
  | .seq e, c, g, a => (match g with
    | .Name _ _ => mE t e c a
    | _ => false)
  | .seqT e, c, g, a => (match g with
    | .Tuple _ _ _ => mE t e c a
    | _ => false)
  | .scr e, c, g, a => (match g with
    | .Name _ _ => mE t e c a
    | _ => false)
  | .rng e, c, g, a => (match g, a with
    | .Name _ _, .Call (.Name f _) [x] [] _ => decide (f = "range") && (blB t c f && (notSt x && mE t e c x))
    | _, _ => false)
  | .rng2 e k, c, g, a => (match g, a with
    | .Name _ _, .Call (.Name f _) [x, y] [] _ => decide (f = "range") && (blB t c f && (notSt x && (notSt y && (mE t e c x && mE t k c y))))
    | _, _ => false)
  | .enum e, c, g, a => (match g with
    | .Tuple _ _ _ => (match a with
      | .Call (.Name f _) [x] [] _ => decide (f = "enumerate") && (blB t c f && (notSt x && mE t e c x))
      | _ => false)
    | _ => false)
end

/-! ### the machine's parts by forms -/
theorem star_cons {e : Expr} (h : notSt e = true) (es : List Expr) (env : Env) : starEach (e :: es) env = (false, eval e env) :: starEach es env := by
  cases e <;> first | rfl | (simp [notSt] at h)
theorem plainIx_of {e : Expr} (h : notSl e = true) : ∀ o i, subscripted e false o i = operate [o, i] (getItem o i) := by
  intro o i
  cases e <;> first | rfl | (simp [notSl] at h)
theorem isTrue_plain {e : Expr} (h : plainT e = true) (env : Env) : ∀ whole, isTrue e env whole = (do let v ← whole; standAt e.pos; holding [v] (truthy v)) := by
  intro w
  cases e with
  | UnaryOp op x p => cases op <;> first | rfl | (simp [plainT] at h)
  | _ => first | rfl | (simp [plainT] at h)

/-! ### what is known of the module -/
/-- a def's promise: what f says of its arguments' trees -/
def PostC (K : PySem.W.Frag) (ca : CA) (S : Own) (O : List Addr) (H : Hp) (vs : List V) (Q : VK) (E : XK) : CR → Prop
  | .ok d fin => ∀ v S' H' A B, (∀ a, S a → S' a) → Fr false S O H H' → Rep K ca S' H' v d A → RepE K ca S' H' (vs.map some) fin B → Ow S' H' (A ++ B ++ O) → Q v H'
  | .ex x => ∀ cls dd S' H' A, (∀ a, S a → S' a) → Fr false S O H H' → RepX K ca S' H' cls dd x A → Ow S' H' (A ++ O) → E cls dd H'
  | .bad => False
def spD (K : PySem.W.Frag) (ca : CA) (n : Nat) (f : List D → CR) : Sp := fun vs H Q E => vs.length = n ∧ ∃ S O ds A, Reps K ca S H vs ds A ∧ Ow S H (A ++ O) ∧ PostC K ca S O H vs Q E (f ds)
def Cn.vl : Cn → V
  | .non => .non
  | .bl b => .bl b
  | .int i => .int i
  | .str s => .str s
/-- the module's names, the classes' places, what the defs do, how deep they may call -/
structure Pm where
  t : Tab
  ca : CA
  F : Orc
  k : Nat
structure PmOk (m : Pm) (P : Program) (w : World) (K : PySem.W.Frag) (mg : Str → Option Value) (base : Heap) : Prop where
  fs : ∀ f x n, m.t.fs[f]? = some (x, n) → ∃ fa fd ps, FnOk P w K mg base (L2.CX P w) m.k fa fd ps (spD K m.ca n (m.F f)) ∧ mg x = some (.ref fa) ∧ PySem.W.keepIn K (.ref fa) = true ∧ Binds K fd ps []
  cs : ∀ x k, (x, k) ∈ m.t.cs → ∃ u, mg x = some u ∧ RelV (Cn.vl k) u
  bl : ∀ x ∈ m.t.bl, mg x = none
/-- a place of the text -/
structure CtxOk (m : Pm) (c : Ctx) (X : Cx) (W : WX) : Prop where
  ok : PmOk m X.prog X.w X.K X.mg X.base
  N : X.N = c.N
  nd : X.N.Nodup
  sc : X.env.scope = c.sc
  fn : X.fn = c.fn
  calm : X.calm = true
  room : Room m.k X.A
  tk : Takes X W
section
variable {m : Pm} {c : Ctx} {X : Cx} {W : WX}
theorem CtxOk.hu (h : CtxOk m c X W) : X.A.units + 64 < cLine := h.room.units
theorem CtxOk.hu1 (h : CtxOk m c X W) : X.A.units + 1 < cLine := hu_of h.room
theorem CtxOk.gl (h : CtxOk m c X W) {x : Str} (e : glB c x = true) : Gl X x ∧ (x == ("__debug__" : Str)) = false ∧ x ≠ "__name__" := by
  simp only [glB, okN, Bool.and_eq_true, Bool.not_eq_true', decide_eq_true_eq, decide_eq_false_iff_not] at e
  refine ⟨?_, beq_eq_false_iff_ne.mpr e.2.1.1, e.2.2⟩
  show X.env.scope.names.lookup x = _
  rw [h.sc]
  exact e.1
theorem CtxOk.bl (h : CtxOk m c X W) {x : Str} (e : blB m.t c x = true) : Gl X x ∧ (x == ("__debug__" : Str)) = false ∧ x ≠ "__name__" ∧ X.mg x = none := by
  simp only [blB, Bool.and_eq_true, decide_eq_true_eq] at e
  obtain ⟨h1, h2, h3⟩ := h.gl e.1
  exact ⟨h1, h2, h3, h.ok.bl x e.2⟩
theorem CtxOk.vis (h : CtxOk m c X W) {i : Nat} {x : Str} (e : visB c i x = true) : X.N[i]? = some x ∧ Vis X.env.scope x ∧ (x == ("__debug__" : Str)) = false ∧ (x == ("__classdict__" : Str)) = false := by
  simp only [visB, okN, Bool.and_eq_true, Bool.not_eq_true', decide_eq_true_eq, decide_eq_false_iff_not] at e
  refine ⟨by rw [h.N]; exact e.1, ?_, beq_eq_false_iff_ne.mpr e.2.2.1.1, beq_eq_false_iff_ne.mpr e.2.2.1.2⟩
  have q := e.2.1
  unfold Vis
  rw [h.sc]
  split at q
  · exact .inl (by assumption)
  · exact .inr (.inl (by assumption))
  · exact .inr (.inr (by assumption))
  · cases q
theorem CtxOk.loc (h : CtxOk m c X W) {i : Nat} {x : Str} (e : locB c i x = true) : X.N[i]? = some x ∧ L2.Loc X.env.scope x ∧ (X.fn x = true ∨ X.env.scope.names.lookup x = some .local) := by
  simp only [locB, okN, Bool.and_eq_true, Bool.not_eq_true', decide_eq_true_eq, decide_eq_false_iff_not] at e
  refine ⟨by rw [h.N]; exact e.1, ?_⟩
  have q := e.2.1
  unfold L2.Loc
  rw [h.sc, h.fn]
  split at q
  · rename_i z
    exact ⟨.inl z, .inr z⟩
  · rename_i z
    exact ⟨.inr z, .inl q⟩
  · cases q
end

/-! ### one part behind another -/
section
variable {K : PySem.W.Frag} {ca : CA} {W : WX} {σ : L2.St} {α β γ δ : Type} {val : Val α β} {val2 : Val γ δ} {pu pu1 pu2 : Bool} {S S1 S2 : Own} {O A1 B1 : List Addr} {H H1 H2 : Hp}
/-- behind a first part, one more asked: what is known then -/
structure Nx (K : PySem.W.Frag) (ca : CA) (W : WX) (σ : L2.St) {α β γ δ : Type} (val : Val α β) (val2 : Val γ δ) (pu pu2 : Bool) (S : Own) (O : List Addr) (H : Hp) (Q : δ → Hp → Prop) (S1 : Own) (O1 : List Addr) (H1 : Hp) (r : R α) (k : α → Ev → R γ) (b : β) (H2 : Hp) (a : α) (ρ2 : Ev) (S2 : Own) (A2 B2 : List Addr) : Prop where
  e : r = .ok a ρ2
  sub : ∀ x, S1 x → S2 x
  fr : Fr pu2 S1 O1 H1 H2
  v : val a b S2 H2 A2
  env : RepE K ca S2 H2 σ ρ2 B2
  ow : Ow S2 H2 (A2 ++ B2 ++ O1)
  post : Post K ca W σ val2 pu S O H Q (k a ρ2)
theorem Post.bndN {Q : δ → Hp → Prop} {r : R α} {k : α → Ev → R γ} (h : Post K ca W σ val2 pu S O H Q (r.bnd k)) (hs : ∀ x, S x → S1 x) (fr : Fr pu1 S O H H1) :
    Post K ca W σ val pu2 S1 (A1 ++ O) H1 (fun b H2 => ∃ a ρ2 S2 A2 B2, Nx K ca W σ val val2 pu pu2 S O H Q S1 (A1 ++ O) H1 r k b H2 a ρ2 S2 A2 B2) r := by
  have ho : ∀ a ∈ O, a ∈ A1 ++ O := fun a ha => List.mem_append_right _ ha
  cases r with
  | ok a ρ => exact fun b S' H' A B h1 h2 h3 h4 h5 => ⟨a, ρ, S', A, B, rfl, h1, h2, h3, h4, h5, h⟩
  | ex x ρ =>
    refine fun cls dd S' H' A B h1 h2 h3 h4 h5 => h cls dd S' H' A B (fun x z => h1 x (hs x z)) (Fr.weak (pu' := false) ((fr.weak (pu' := false) (by intro z; cases z)).trans h2 hs ho) (by intro z; cases z)) h3 h4 (h5.sub ?_)
    exact (List.Sublist.refl _).append (List.sublist_append_right _ _)
  | bad => exact h
theorem Post.bnd0 {Q : δ → Hp → Prop} {r : R α} {k : α → Ev → R γ} (h : Post K ca W σ val2 pu S O H Q (r.bnd k)) :
    Post K ca W σ val pu2 S O H (fun b H2 => ∃ a ρ2 S2 A2 B2, Nx K ca W σ val val2 pu pu2 S O H Q S O H r k b H2 a ρ2 S2 A2 B2) r :=
  Post.bndN (A1 := []) (pu1 := true) h (fun _ z => z) Fr.refl
/-- the last step: an operation's answer -/
theorem Post.res {d : D} {ρ1 : Ev} {Q : V → Hp → Prop} (h : Post K ca W σ (vE K ca) pu S O H Q (.ok (d, false) ρ1)) (hs : ∀ x, S x → S1 x) (fr : Fr pu1 S O H H1) (hp : pu = true → pu1 = true) (env : RepE K ca S1 H1 σ ρ1 B1) (ow : Ow S1 H1 (B1 ++ O)) : Res K ca S1 H1 d Q := by
  refine Res.use ow fun v S' H' N h1 h2 h3 h4 => ?_
  refine h v S' H' N B1 (fun x z => h1 x (hs x z)) ((fr.trans h2 hs fun a ha => List.mem_append_right _ ha).weak fun z => by rw [hp z]; rfl) ⟨N, h3, rfl⟩ (env.frame h1 (fun a ha => h2.st a (.inl ha)) fun a ha => h2.st a (.inr (List.mem_append_left _ ha))) ?_
  rw [List.append_assoc]
  exact h4
theorem Rep.some_ : ∀ {v : V} {d : D} {A : List Addr}, Rep K ca S H v d A → ∀ a ∈ A, ∃ o, H a = some o := by
  intro v d A r
  exact (Rep.rec (motive_1 := fun v d A _ => ∀ a ∈ A, ∃ o, H a = some o) (motive_2 := fun v d A _ => ∀ a ∈ A, ∃ o, H a = some o)
    (fun _ h => nomatch h) (fun _ _ h => nomatch h) (fun _ _ h => nomatch h) (fun _ _ h => nomatch h) (fun _ _ _ h => nomatch h) (fun _ _ h => nomatch h)
    (fun _ _ _ _ _ h => nomatch h) (fun h _ ih a ha => (List.mem_cons.mp ha).elim (fun e => ⟨_, e ▸ h⟩) (ih a))
    (fun _ _ _ _ _ h => nomatch h) (fun _ _ _ _ h => nomatch h) (fun h _ ih a ha => (List.mem_cons.mp ha).elim (fun e => ⟨_, e ▸ h⟩) (ih a))
    (fun _ _ _ _ _ _ _ h => nomatch h) (fun h _ _ _ ih a ha => (List.mem_cons.mp ha).elim (fun e => ⟨_, e ▸ h⟩) (ih a))
    (fun _ _ _ _ _ _ _ h => nomatch h) (fun h _ _ _ ih a ha => (List.mem_cons.mp ha).elim (fun e => ⟨_, e ▸ h⟩) (ih a))
    (fun _ _ _ _ _ _ _ h => nomatch h) (fun h _ _ _ ih a ha => (List.mem_cons.mp ha).elim (fun e => ⟨_, e ▸ h⟩) (ih a))
    (fun _ h => nomatch h) (fun _ _ i1 i2 a ha => (List.mem_append.mp ha).elim (i1 a) (i2 a)) r)
/-- a value in hand stands on while the next one is asked -/
theorem vE.held {d : D × Bool} {v : V} {y : E} (h : vE K ca d v S1 H1 A1) (hh : held d.1 d.2 y = true) (hs : ∀ x, S1 x → S2 x) (fr : Fr y.pu S1 (A1 ++ O) H1 H2) : ∃ A, Rep K ca S2 H2 v d.1 A := by
  obtain ⟨A', r, e⟩ := h
  refine ⟨A', r.frame hs (fun a ha => fr.st a (.inl ha)) fun a ha => ?_⟩
  cases hlo : d.2 with
  | false =>
    rw [hlo] at e
    simp only [Bool.false_eq_true, if_false] at e
    exact fr.st a (.inr (List.mem_append_left _ (e ▸ ha)))
  | true =>
    simp only [Hm.held, hlo, Bool.not_true, Bool.false_or, Bool.or_eq_true] at hh
    rcases hh with hh | hh
    · rw [r.nil_of hh] at ha
      exact nomatch ha
    · obtain ⟨o, q⟩ := r.some_ a ha
      rw [fr.ext hh a o q, q]
end
end Hm
end
section
set_option Elab.async false
set_option linter.all false
set_option maxRecDepth 100000
/-! Each form of the language, by its parts. -/
namespace Hm
open PySem PySem.Spec PyProof.Rows L2

section
variable (m : Pm) (X : Cx) (W : WX)
abbrev aE (e : E) : TE := fun σ H Q => Ask X.K m.ca W σ (vE X.K m.ca) e.pu (fun ρ => e.go m.F ρ) H Q
abbrev aT (t : T) : TT := fun σ H Q => Ask X.K m.ca W σ vB false (fun ρ => t.tst m.F ρ) H Q
abbrev aV (t : T) : TE := fun σ H Q => Ask X.K m.ca W σ vB false (fun ρ => t.val m.F ρ) H fun b H' => Q (.bl b) H'
abbrev aEo (e : Eo) : TO := fun σ H Q => Ask X.K m.ca W σ vI e.pu (fun ρ => e.go m.F ρ) H Q
abbrev aTo (e : To) : TT := fun σ H Q => Ask X.K m.ca W σ vB false (fun ρ => e.tst m.F ρ) H Q
abbrev aEs (e : Es) : TA := fun σ H Q => Ask X.K m.ca W σ (vs X.K m.ca) false (fun ρ => e.go m.F ρ) H Q
/-- the owned use of an expression -/
def E.ow (F : Orc) (e : E) (ρ : Ev) : R D := (e.go F ρ).bnd fun d ρ => own e d.1 d.2 ρ
abbrev aO (e : E) : TE := fun σ H Q => Ask X.K m.ca W σ (vO X.K m.ca) false (fun ρ => e.ow m.F ρ) H Q
end
section
variable {m : Pm} {X : Cx} {W : WX} {c : Ctx} {pos : Pos}

/-! ### leaves -/
theorem ask_leaf {σ : L2.St} {H : Hp} {Q : V → Hp → Prop} {pu : Bool} {f : Ev → R (D × Bool)} {d : D} {v : V} (h : Ask X.K m.ca W σ (vE X.K m.ca) pu f H Q) (e : ∀ ρ, f ρ = .ok (d, false) ρ) (r : ∀ S H, Rep X.K m.ca S H v d []) : Q v H := by
  obtain ⟨S, O, ρ, B, hρ, w, hp⟩ := h
  rw [e] at hp
  exact hp v S H [] B (fun _ z => z) Fr.refl ⟨[], r S H, rfl⟩ hρ (by simpa using w)
theorem Cn.rep {K : PySem.W.Frag} {ca : CA} (k : Cn) (S : Own) (H : Hp) : Rep K ca S H k.vl k.d [] := by
  cases k with
  | non => exact .non
  | bl b => exact .bl b
  | int i => exact .int i
  | str s => exact .str s
theorem s_c {k : Cn} {v : Const} {n : Nat} (h : cnB k v = true) : PE X (.Constant v n pos) (aE m X W (.c k)) := by
  have q : ∀ (σ : L2.St) (H : Hp) (Q : V → Hp → Prop), aE m X W (.c k) σ H Q → Q k.vl H := fun σ H Q a => ask_leaf a (fun _ => rfl) (Cn.rep k)
  cases k <;> cases v <;> simp only [cnB, Bool.false_eq_true, beq_iff_eq, decide_eq_true_eq] at h
  · exact PE.imp pe_non fun σ H Q a => q σ H Q a
  · subst h; exact PE.imp pe_bl fun σ H Q a => q σ H Q a
  · subst h; exact PE.imp pe_int fun σ H Q a => q σ H Q a
  · subst h; exact PE.imp pe_str fun σ H Q a => q σ H Q a
theorem s_g (hx : CtxOk m c X W) {k : Cn} {x : Str} (h1 : glB c x = true) (h2 : (x, k) ∈ m.t.cs) : PE X (.Name x pos) (aE m X W (.g x k)) := by
  obtain ⟨u, h3, h4⟩ := hx.ok.cs x k h2
  obtain ⟨h5, h6, _⟩ := hx.gl h1
  exact PE.imp (pe_glob h5 h3 h4 h6) fun σ H Q a => ask_leaf a (fun _ => rfl) (Cn.rep k)
theorem s_v (hx : CtxOk m c X W) {i : Nat} {x : Str} (h : visB c i x = true) : PE X (.Name x pos) (aE m X W (.v i)) := by
  obtain ⟨h1, h2, h3, h4⟩ := hx.vis h
  refine PE.imp (pe_var h1 h2 h3 h4) fun σ H Q ⟨S, O, ρ, B, hρ, w, hp⟩ => ?_
  simp only [E.go] at hp
  split at hp
  · rename_i d e
    obtain ⟨v, A, e1, r, _⟩ := hρ.get e
    exact ⟨v, e1, hp v S H [] B (fun _ z => z) Fr.refl ⟨A, r, rfl⟩ hρ (by simpa using w)⟩
  · exact hp.elim
theorem s_mv (hx : CtxOk m c X W) {i : Nat} {x : Str} (h : visB c i x = true) : PE X (.Name x pos) (aE m X W (.mv i)) := by
  obtain ⟨h1, h2, h3, h4⟩ := hx.vis h
  refine PE.imp (pe_var h1 h2 h3 h4) fun σ H Q ⟨S, O, ρ, B, hρ, w, hp⟩ => ?_
  simp only [E.go] at hp
  split at hp
  · rename_i d e
    obtain ⟨B', q1, q2, q3⟩ := hρ.off i
    obtain ⟨v, A, e1, r, pm⟩ := q3 d e
    exact ⟨v, e1, hp v S H A B' (fun _ z => z) Fr.refl ⟨A, r, rfl⟩ q1 (w.perm (pm.append_right O))⟩
  · exact hp.elim
/-! ### one operand, two -/
theorem rd_1 {x : E} {f : D → Option D} {σ : L2.St} {H : Hp} {Q : V → Hp → Prop} {pu : Bool} (hpu : pu = true → x.pu = true)
    (h : Ask X.K m.ca W σ (vE X.K m.ca) pu (fun ρ => (x.go m.F ρ).bnd fun d ρ => .opt ((f d.1).map (·, false)) ρ) H Q) : aE m X W x σ H fun v H1 => rU1 X.K m.ca f v H1 Q := by
  obtain ⟨S, O, ρ, B, hρ, w, hp⟩ := h
  refine ⟨S, O, ρ, B, hρ, w, (Post.bnd0 hp).imp fun v H1 ⟨d, ρ1, S1, A1, B1, n⟩ => ?_⟩
  obtain ⟨A', r, e⟩ := n.v
  have po := n.post
  cases ef : f d.1 with
  | none => rw [ef] at po; exact po.elim
  | some u =>
    rw [ef] at po
    exact ⟨S1, B1 ++ O, d.1, A', u, n.ow.drop1, r, ef, po.res n.sub n.fr hpu n.env n.ow.drop1⟩
theorem rd_2 {x y : E} {f : D → D → Option D} {σ : L2.St} {H : Hp} {Q : V → Hp → Prop} {pu : Bool} (hpu : pu = true → x.pu = true ∧ y.pu = true)
    (h : Ask X.K m.ca W σ (vE X.K m.ca) pu (fun ρ => (x.go m.F ρ).bnd fun a ρ => if held a.1 a.2 y = true then (y.go m.F ρ).bnd fun b ρ => .opt ((f a.1 b.1).map (·, false)) ρ else .bad) H Q) :
    aE m X W x σ H fun v H1 => aE m X W y σ H1 fun u H2 => rB X.K m.ca f v u H2 Q := by
  obtain ⟨S, O, ρ, B, hρ, w, hp⟩ := h
  refine ⟨S, O, ρ, B, hρ, w, (Post.bnd0 hp).imp fun v H1 ⟨a, ρ1, S1, A1, B1, n⟩ => ?_⟩
  have po := n.post
  split at po
  · rename_i hh
    refine ⟨S1, A1 ++ O, ρ1, B1, n.env, n.ow.r1, (Post.bndN po n.sub n.fr).imp fun u H2 ⟨b, ρ2, S2, A2, B2, n2⟩ => ?_⟩
    obtain ⟨A', r⟩ := vE.held n.v hh n2.sub n2.fr
    obtain ⟨A2', r2, e2⟩ := n2.v
    have po2 := n2.post
    cases ef : f a.1 b.1 with
    | none => rw [ef] at po2; exact po2.elim
    | some z =>
      rw [ef] at po2
      have w2 : Ow S2 H2 (B2 ++ O) := n2.ow.drop1.sub ((List.Sublist.refl _).append (List.sublist_append_right _ _))
      refine ⟨S2, B2 ++ O, a.1, b.1, A', A2', z, w2, r, r2, ef, po2.res (fun x z => n2.sub x (n.sub x z)) (n.fr.trans n2.fr n.sub fun a ha => List.mem_append_right _ ha) (fun z => ?_) n2.env w2⟩
      rw [(hpu z).1, (hpu z).2]; rfl
  · exact po.elim
theorem s_neg {x : E} {a : Expr} (hx : PE X a (aE m X W x)) : PE X (.UnaryOp .USub a pos) (aE m X W (.u .neg x)) :=
  PE.imp (pe_un u_neg hx) fun σ H Q h => rd_1 (fun z => z) h
theorem call1 (hx : CtxOk m c X W) {f : Str} {fv : Value} {a : Expr} {r : List V → Hp → VK → Prop} {t : TE} {p : Pos} (h1 : blB m.t c f = true) (hb : bootBuiltins f = some fv) (hk : (∃ id, fv = .builtin id) ∨ ∃ T, fv = .type T) (hr : CallR X fv r) (hs : notSt a = true) (ha : PE X a t) :
    PE X (.Call (.Name f p) [a] [] pos) (fun σ H Q => t σ H fun v H1 => r [v] H1 Q) := by
  obtain ⟨q1, q2, q3, q4⟩ := hx.bl h1
  have st : starEach [a] X.env = (false, eval a X.env) :: starEach [] X.env := star_cons hs [] X.env
  rcases hk with ⟨id, rfl⟩ | ⟨T, rfl⟩
  · exact pe_callB hr q1 q4 hb (pa_cons ha pa_nil st) q3 q2 st rfl
  · exact pe_callTy hr q1 q4 hb (pa_cons ha pa_nil st) q3 q2 st rfl
theorem call2 (hx : CtxOk m c X W) {f : Str} {fv : Value} {a b : Expr} {r : List V → Hp → VK → Prop} {t u : TE} {p : Pos} (h1 : blB m.t c f = true) (hb : bootBuiltins f = some fv) (hk : (∃ id, fv = .builtin id) ∨ ∃ T, fv = .type T) (hr : CallR X fv r) (hs : notSt a = true) (hs2 : notSt b = true) (ha : PE X a t) (hc : PE X b u) :
    PE X (.Call (.Name f p) [a, b] [] pos) (fun σ H Q => t σ H fun v H1 => u σ H1 fun w H2 => r [v, w] H2 Q) := by
  obtain ⟨q1, q2, q3, q4⟩ := hx.bl h1
  have st2 : starEach [b] X.env = (false, eval b X.env) :: starEach [] X.env := star_cons hs2 [] X.env
  have st : starEach [a, b] X.env = (false, eval a X.env) :: starEach [b] X.env := star_cons hs [b] X.env
  have st3 : (backTo pos (starEach [b] X.env)).any (·.1) = false := by rw [st2]; rfl
  rcases hk with ⟨id, rfl⟩ | ⟨T, rfl⟩
  · exact pe_callB hr q1 q4 hb (pa_cons ha (pa_cons hc pa_nil st2) st) q3 q2 st st3
  · exact pe_callTy hr q1 q4 hb (pa_cons ha (pa_cons hc pa_nil st2) st) q3 q2 st st3
theorem s_fn (hx : CtxOk m c X W) {o : U1} {x : E} {f : Str} {fv : Value} {a : Expr} {p : Pos} (h : o.fn = some (f, fv)) (h1 : blB m.t c f = true) (hs : notSt a = true) (ha : PE X a (aE m X W x)) : PE X (.Call (.Name f p) [a] [] pos) (aE m X W (.u o x)) := by
  obtain ⟨b1, _, _, b2⟩ := U1.fn_boot h
  refine PE.imp (call1 hx h1 b1 b2 (calls1 (ca := m.ca) hx.calm h) hs ha) fun σ H Q q => ?_
  obtain ⟨S, O, ρ, B, hρ, w, hp⟩ := rd_1 (f := o.go) (fun z => z) q
  exact ⟨S, O, ρ, B, hρ, w, hp.imp fun v H1 z => ⟨v, rfl, z⟩⟩
theorem dedI_lt : ∀ {l : List Int}, l.Pairwise (· ≤ ·) → (dedI l).Pairwise (· < ·) ∧ (∀ k, k ∈ dedI l ↔ k ∈ l) ∧ (∀ a r, l = a :: r → ∃ r', dedI l = a :: r')
  | [], _ => ⟨List.Pairwise.nil, fun _ => Iff.rfl, fun _ _ h => nomatch h⟩
  | [a], _ => ⟨List.pairwise_singleton _ _, fun _ => Iff.rfl, fun _ _ h => by cases h; exact ⟨[], rfl⟩⟩
  | a :: b :: r, h => by
    obtain ⟨h1, h2⟩ := List.pairwise_cons.mp h
    obtain ⟨i1, i2, i3⟩ := dedI_lt h2
    by_cases e : a = b
    · subst e
      have e2 : dedI (a :: a :: r) = dedI (a :: r) := by simp [dedI]
      rw [e2]
      refine ⟨i1, fun k => (i2 k).trans ?_, fun x y hxy => ?_⟩
      · simp
      · cases hxy
        exact i3 a r rfl
    · have e2 : dedI (a :: b :: r) = a :: dedI (b :: r) := by simp [dedI, e]
      rw [e2]
      refine ⟨List.pairwise_cons.mpr ⟨fun y hy => ?_, i1⟩, fun k => ?_, fun x y hxy => ?_⟩
      · have hy' := (i2 y).mp hy
        obtain ⟨g1, g2⟩ := List.pairwise_cons.mp h2
        have hab := h1 b List.mem_cons_self
        rcases List.mem_cons.mp hy' with z | z
        · omega
        · have := g1 y z
          omega
      · rw [List.mem_cons, List.mem_cons, i2 k]
      · cases hxy
        exact ⟨_, rfl⟩
theorem dedI_eq {ns ns' : List Int} (hp : ns'.Pairwise (· < ·)) (hm : ∀ k, k ∈ ns' ↔ k ∈ ns) : ns' = dedI (srtI ns) := by
  obtain ⟨i1, i2, _⟩ := dedI_lt (srtI_pw ns)
  have nd : ∀ {l : List Int}, l.Pairwise (· < ·) → l.Nodup := fun h => h.imp fun {a b} z => by omega
  have pm : ns'.Perm (dedI (srtI ns)) := (List.perm_ext_iff_of_nodup (nd hp) (nd i1)).mpr fun k => by rw [hm k, i2 k, (srtI_perm ns).mem_iff]
  exact PySem.W.ksm_same pm (hp.imp fun {a b} z => by omega) (i1.imp fun {a b} z => by omega)
theorem s_sset (hx : CtxOk m c X W) {x : E} {a : Expr} {p p2 q : Pos} (h1 : blB m.t c "sorted" = true) (h2 : blB m.t c "set" = true) (hs : notSt a = true) (ha : PE X a (aE m X W x)) : PE X (.Call (.Name "sorted" p) [.Call (.Name "set" p2) [a] [] q] [] pos) (aE m X W (.u .sortedSet x)) := by
  obtain ⟨q1, q2, q3, q4⟩ := hx.bl h1
  obtain ⟨r1, r2, r3, r4⟩ := hx.bl h2
  refine PE.imp (pe_sortedSet q1 q4 r1 r4 ha hx.calm (star_cons hs [] X.env)) fun σ H Q q => ?_
  obtain ⟨S, O, ρ, B, hρ, w, hp⟩ := rd_1 (f := U1.go .sortedSet) (fun z => z) q
  refine ⟨S, O, ρ, B, hρ, w, hp.imp fun v H1 ⟨S, L, dx, A, d, w, r, e, q⟩ => ?_⟩
  obtain ⟨o, xs, ns, rfl, h3, e⟩ := seqI_ (show seqI (fun ns => if ns.length + 1 < scanBound then some (.lst true ((dedI (srtI ns)).map .int)) else none) dx = some d from e)
  split at e
  · rename_i hz
    cases e
    obtain ⟨a, vs, A', rfl, g1, g2, _⟩ := r.lst_
    have ev := g2.ints h3
    subst ev
    refine ⟨a, ns, rfl, SqL.of g1, hz, fun ns' p hp hm hn => q.new w hn fun S' H' hs hh e => ?_⟩
    rw [dedI_eq hp hm] at e
    exact .lstO (A := []) e (reps_ints _)
  · cases e
theorem s_f2 (hx : CtxOk m c X W) {o : B2} {x y : E} {f : Str} {fv : String} {a b : Expr} {p : Pos} (h : o.f2 = some (f, fv)) (h1 : blB m.t c f = true) (hs : notSt a = true) (hs2 : notSt b = true) (ha : PE X a (aE m X W x)) (hb : PE X b (aE m X W y)) :
    PE X (.Call (.Name f p) [a, b] [] pos) (aE m X W (.b o x y)) := by
  obtain ⟨b1, _, _⟩ := B2.f2_boot h
  refine PE.imp (call2 hx h1 b1 (.inl ⟨_, rfl⟩) (calls2 (ca := m.ca) hx.calm h) hs hs2 ha hb) fun σ H Q q => ?_
  obtain ⟨S, O, ρ, B, hρ, w, hp⟩ := rd_2 (f := o.go) (fun z => by simpa [E.pu] using z) q
  refine ⟨S, O, ρ, B, hρ, w, hp.imp fun v H1 ⟨S, O, ρ, B, hρ, w, hp⟩ => ⟨S, O, ρ, B, hρ, w, hp.imp fun u H2 z => ⟨v, u, rfl, z⟩⟩⟩
theorem s_op {o : B2} {op : Operator} {x y : E} {a b : Expr} (h : o.op = some op) (ha : PE X a (aE m X W x)) (hb : PE X b (aE m X W y)) : PE X (.BinOp a op b pos) (aE m X W (.b o x y)) :=
  PE.imp (pe_op (binR m.ca h) ha hb) fun σ H Q q => rd_2 (f := o.go) (fun z => by simpa [E.pu] using z) q
/-! ### comparisons -/
theorem op_inK (hu : X.A.units + 1 < cLine) : OpR X (compareOp .In) (fun y x H Q => ∃ a o, x = .ref a ∧ DGet H a y o ∧ Q (.bl o.isSome) H) := by
  intro pins s σ H x y v u Q I rx ry h
  obtain ⟨a, o, rfl, g, q⟩ := h
  obtain rfl : u = Value.ref a := ry
  exact d_in hu I g rx fun s3 I3 => ⟨.bl o.isSome, H, I3, rfl, q⟩
theorem op_ninK (hu : X.A.units + 1 < cLine) : OpR X (compareOp .NotIn) (fun y x H Q => ∃ a o, x = .ref a ∧ DGet H a y o ∧ Q (.bl (!o.isSome)) H) := by
  intro pins s σ H x y v u Q I rx ry h
  obtain ⟨a, o, rfl, g, q⟩ := h
  obtain rfl : u = Value.ref a := ry
  exact d_notIn hu I g rx fun s3 I3 => ⟨.bl (!o.isSome), H, I3, rfl, q⟩
theorem inK_of {K : PySem.W.Frag} {ca : CA} {S : Own} {H : Hp} {x y : V} {dx : D} {o : Bool} {ks : List Key} {ds : List D} {A B : List Addr} {k : Bool} (r1 : Rep K ca S H x dx A) (r2 : Rep K ca S H y (.dK o ks ds) B) (e : dx.key.map (inK ks) = some k) :
    ∃ a r, y = .ref a ∧ DGet H a x r ∧ r.isSome = k := by
  obtain ⟨q, e1, e2⟩ := Option.map_eq_some_iff.mp e
  obtain ⟨a, kvs, A', rfl, h1, rfl, q1, _⟩ := r2.dK_
  exact ⟨a, valV kvs q, rfl, r1.keyV e1 ▸ DGet.k h1, (look_valV q1 q).1.trans e2⟩
/-- a comparison, of dicts too -/
theorem cmpR2 (hx : CtxOk m c X W) {o : B2} {op : CmpOp} (h : o.cm = some op) : OpR X (compareOp op) (rB X.K m.ca o.go) := by
  have base := cmpR (X := X) m.ca hx.hu h
  cases o <;> first
    | exact base
    | skip
  · obtain rfl : CmpOp.In = op := Option.some.inj h
    refine OpR.imp (base.or (op_inK hx.hu1)) ?_
    rintro x y H Q ⟨S, L, dx, dy, A, B, d, w, r1, r2, e, q⟩
    have e' : (inD dx dy).map D.bl = some d := e
    cases dy with
    | dK o ks ds =>
      obtain ⟨k, e0, rfl⟩ := Option.map_eq_some_iff.mp e'
      obtain ⟨a, r, h1, h2, h3⟩ := inK_of r1 r2 e0
      exact .inr ⟨a, r, h1, h2, by rw [h3]; exact q.flat (.bl _)⟩
    | _ => exact .inl ⟨S, L, _, _, A, B, d, w, r1, r2, e', q⟩
  · obtain rfl : CmpOp.NotIn = op := Option.some.inj h
    refine OpR.imp (base.or (op_ninK hx.hu1)) ?_
    rintro x y H Q ⟨S, L, dx, dy, A, B, d, w, r1, r2, e, q⟩
    have e' : (inD dx dy).map (fun k => D.bl (!k)) = some d := e
    cases dy with
    | dK o ks ds =>
      obtain ⟨k, e0, rfl⟩ := Option.map_eq_some_iff.mp e'
      obtain ⟨a, r, h1, h2, h3⟩ := inK_of r1 r2 e0
      exact .inr ⟨a, r, h1, h2, by rw [h3]; exact q.flat (.bl _)⟩
    | _ => exact .inl ⟨S, L, _, _, A, B, d, w, r1, r2, e', q⟩
theorem s_cmp (hx : CtxOk m c X W) {o : B2} {op : CmpOp} {x y : E} {a b : Expr} (h : o.cm = some op) (hm : behindInMarks op b = false) (ha : PE X a (aE m X W x)) (hb : PE X b (aE m X W y)) : PE X (.Compare a [op] [b] pos) (aE m X W (.b o x y)) :=
  PE.imp (pe_cmpR (cmpR2 hx h) ha hb hm) fun σ H Q q => rd_2 (f := o.go) (fun z => by simpa [E.pu] using z) q
/-- the answer is a truth value -/
theorem cmp_bl {o : B2} {op : CmpOp} (h : o.cm = some op) {a b d : D} (e : o.go a b = some d) : ∃ k, d = .bl k := by
  cases o <;> simp only [B2.cm, Option.some.injEq, reduceCtorEq] at h
  · obtain ⟨k, _, rfl⟩ := Option.map_eq_some_iff.mp (show (eqD a b).map D.bl = some d from e); exact ⟨_, rfl⟩
  · obtain ⟨k, _, rfl⟩ := Option.map_eq_some_iff.mp (show (eqD a b).map (fun k => D.bl (!k)) = some d from e); exact ⟨_, rfl⟩
  · change ltD a b = some d at e
    unfold ltD at e
    split at e <;> cases e <;> exact ⟨_, rfl⟩
  · change cmpD _ a b = some d at e
    unfold cmpD at e
    split at e <;> cases e <;> exact ⟨_, rfl⟩
  · change cmpD _ a b = some d at e
    unfold cmpD at e
    split at e <;> cases e <;> exact ⟨_, rfl⟩
  · change cmpD _ a b = some d at e
    unfold cmpD at e
    split at e <;> cases e <;> exact ⟨_, rfl⟩
  · obtain ⟨k, _, rfl⟩ := Option.map_eq_some_iff.mp (show (inD a b).map D.bl = some d from e); exact ⟨_, rfl⟩
  · obtain ⟨k, _, rfl⟩ := Option.map_eq_some_iff.mp (show (inD a b).map (fun k => D.bl (!k)) = some d from e); exact ⟨_, rfl⟩
  · change isND false a b = some d at e
    unfold isND at e
    split at e <;> cases e <;> exact ⟨_, rfl⟩
  · change isND true a b = some d at e
    unfold isND at e
    split at e <;> cases e <;> exact ⟨_, rfl⟩
end
end Hm
end
section
set_option Elab.async false
set_option linter.all false
set_option maxRecDepth 100000
/-! Each form of the language, by its parts: items, slices, tests, displays. -/
namespace Hm
open PySem PySem.Spec PyProof.Rows L2

section
variable {m : Pm} {X : Cx} {W : WX} {c : Ctx} {pos : Pos}
/-! ### x[i] -/
/-- an item of a dict -/
theorem ix_dict (hu : X.A.units + 1 < cLine) : IxR X (fun x y H Q => ∃ a v, x = .ref a ∧ DGet H a y (some v) ∧ Q v H) := by
  intro value slice pins s σ H x y v u Q I rx ry h hs
  obtain ⟨a, z, rfl, g, q⟩ := h
  obtain rfl : v = Value.ref a := rx
  have hT := dict_typeIs I g
  unfold subscriptTail
  refine wpAny_bind ?_
  rw [getitemInPython_of_ne hT.not_modules]
  refine wpAny_bind (wpAny_specialOf hT PySem.F.slot_dict_getitem.lookup ?_)
  have fin : wpAny (model X.prog X.w) X.A (subscripted slice false (.ref a) u) (fun r s₃ => wpAny (model X.prog X.w) X.A (letTemporaryGo value (.ref a) r >>= fun _ => pure r) (EP X pins σ Q) X.xe s₃) X.xe s := by
    rw [hs]
    exact wpAny_operating (wpAny_mono (d_getItem hu I g ry fun w' s3 I3 rw' => ⟨z, H, I3, rw', q⟩) (fun r s₃ h₃ => wpAny_bind (wpAny_letTemporaryGo (wpAny_pure h₃))) fun _ _ x => x)
  first
    | exact wpAny_pure (wpAny_bind fin)
    | exact wpAny_bind (wpAny_pure (wpAny_bind fin))
    | exact wpAny_bind fin
theorem ixN_len {n : Nat} {i : Int} {j : Nat} (h : ixN n i = some j) : j < n := (ixN_seq h).2.1
theorem Reps.atI {K : PySem.W.Frag} {ca : CA} {S : Own} {H : Hp} {vs : List V} {ds : List D} {A : List Addr} (r : Reps K ca S H vs ds A) {i : Int} {d : D} (h : L2.atI ds i = some d) : ∃ v A', L2.atI vs i = some v ∧ Rep K ca S H v d A' ∧ List.Sublist A' A := by
  unfold L2.atI at h ⊢
  obtain ⟨j, h1, h2⟩ := Option.bind_eq_some_iff.mp h
  obtain ⟨v, A', h3, h4, h5⟩ := r.get h2
  exact ⟨v, A', by rw [r.length, h1]; exact h3, h4, h5⟩
theorem Rep.dKs_ {K : PySem.W.Frag} {ca : CA} {S : Own} {H : Hp} {v : V} {o : Bool} {ks : List Key} {ds : List D} {A : List Addr} (r : Rep K ca S H v (.dK o ks ds) A) : ∃ a kvs A', v = .ref a ∧ H a = some (.dK kvs) ∧ kvs.map (·.1) = ks ∧ Reps K ca S H (kvs.map (·.2)) ds A' ∧ List.Sublist A' A := by
  cases r with
  | dKS s h e1 e2 q => subst e1 e2; exact ⟨_, _, _, rfl, h, rfl, q, List.Sublist.refl _⟩
  | dKO h e1 e2 q => subst e1 e2; exact ⟨_, _, _, rfl, h, rfl, q, List.sublist_cons_self _ _⟩
theorem ix_of {K : PySem.W.Frag} {ca : CA} {S : Own} {H : Hp} {x y : V} {dx dy d : D} {A B : List Addr} {Q : V → Hp → Prop} (r1 : Rep K ca S H x dx A) (r2 : Rep K ca S H y dy B) (e : ixD dx dy = some d) (q : ∀ v A', Rep K ca S H v d A' → List.Sublist A' A → Q v H) :
    rIx K x y H Q ∨ ∃ a v, x = .ref a ∧ DGet H a y (some v) ∧ Q v H := by
  unfold ixD at e
  split at e
  · cases r1 with
    | lstS s h k =>
      obtain ⟨v, A', h1, h2, h3⟩ := k.atI e
      exact .inl (.inl ⟨_, _, _, v, rfl, r2.int_, SqL.of h, h1, q v A' h2 h3⟩)
    | lstO h k =>
      obtain ⟨v, A', h1, h2, h3⟩ := k.atI e
      exact .inl (.inl ⟨_, _, _, v, rfl, r2.int_, SqL.of h, h1, q v A' h2 (h3.trans (List.sublist_cons_self _ _))⟩)
  · cases r1 with
    | tupS s h k =>
      obtain ⟨v, A', h1, h2, h3⟩ := k.atI e
      exact .inl (.inr (.inl ⟨_, _, _, v, rfl, r2.int_, SqT.of h, h1, q v A' h2 h3⟩))
    | tupW h k =>
      obtain ⟨v, A', h1, h2, h3⟩ := k.atI e
      exact .inl (.inr (.inl ⟨_, _, _, v, rfl, r2.int_, .inr h, h1, q v A' h2 h3⟩))
    | tupO h k =>
      obtain ⟨v, A', h1, h2, h3⟩ := k.atI e
      exact .inl (.inr (.inl ⟨_, _, _, v, rfl, r2.int_, SqT.of h, h1, q v A' h2 (h3.trans (List.sublist_cons_self _ _))⟩))
  · split at e
    · rename_i hz
      obtain ⟨k, h1, rfl⟩ := Option.map_eq_some_iff.mp e
      exact .inl (.inr (.inr ⟨_, _, k, r1.str_, r2.int_, hz, h1, q _ [] (.str _) (List.nil_sublist _)⟩))
    · cases e
  · split at e
    · rename_i kq e1
      obtain ⟨a, kvs, A', rfl, h, rfl, k, hs⟩ := r1.dKs_
      obtain ⟨v, A2, h1, h2, h3⟩ := (look_valV k kq).2 d e
      refine .inr ⟨a, v, rfl, ?_, q v A2 h2 (h3.trans hs)⟩
      rw [r2.keyV e1, ← h1]
      exact DGet.k h
    · cases e
  · cases e
theorem s_ix (hx : CtxOk m c X W) {x y : E} {a b : Expr} (hs : notSl b = true) (ha : PE X a (aE m X W x)) (hb : PE X b (aE m X W y)) : PE X (.Subscript a b pos) (aE m X W (.ix x y)) := by
  refine PE.imp (pe_ix (ix_seq.or (ix_dict hx.hu1)) ha hb (plainIx_of hs)) fun σ H Q ⟨S, O, ρ, B, hρ, w, hp⟩ => ?_
  have hpu : (E.ix x y).pu = true → x.pu = true ∧ y.pu = true := fun z => by simpa [E.pu] using z
  simp only [E.go] at hp
  refine ⟨S, O, ρ, B, hρ, w, (Post.bnd0 hp).imp fun v H1 ⟨d, ρ1, S1, A1, B1, n⟩ => ?_⟩
  have po := n.post
  split at po
  · rename_i hh
    refine ⟨S1, A1 ++ O, ρ1, B1, n.env, n.ow.r1, (Post.bndN po n.sub n.fr).imp fun u H2 ⟨b, ρ2, S2, A2, B2, n2⟩ => ?_⟩
    have po2 := n2.post
    cases ef : ixD d.1 b.1 with
    | none => rw [ef] at po2; exact po2.elim
    | some z =>
      rw [ef] at po2
      obtain ⟨A2', r2, e2⟩ := n2.v
      have fr2 : Fr (E.ix x y).pu S O H H2 := (n.fr.trans n2.fr n.sub fun a ha => List.mem_append_right _ ha).weak fun z => by rw [(hpu z).1, (hpu z).2]; rfl
      have sub2 : ∀ z, S z → S2 z := fun x z => n2.sub x (n.sub x z)
      cases hlo : d.2 with
      | true =>
        obtain ⟨A', r⟩ := vE.held n.v hh n2.sub n2.fr
        refine ix_of r r2 ef fun v' A'' r' _ => po2 v' S2 H2 [] B2 sub2 fr2 ⟨A'', r', by simp [hlo]⟩ n2.env ?_
        exact n2.ow.drop1.sub ((List.Sublist.refl _).append (List.sublist_append_right _ _))
      | false =>
        obtain ⟨A', r, e⟩ := n.v
        simp only [hlo, Bool.false_eq_true, if_false] at e
        subst e
        have r' := r.frame n2.sub (fun a ha => n2.fr.st a (.inl ha)) fun a ha => n2.fr.st a (.inr (List.mem_append_left _ ha))
        refine ix_of r' r2 ef fun v' A'' r'' hs => po2 v' S2 H2 A'' B2 sub2 fr2 ⟨A'', r'', by simp [hlo]⟩ n2.env ?_
        have h1 : Ow S2 H2 (B2 ++ (A1 ++ O)) := n2.ow.drop1
        have h2 : Ow S2 H2 (A1 ++ (B2 ++ O)) := h1.perm (List.perm_append_comm_assoc A1 B2 O)
        rw [List.append_assoc]
        exact h2.sub (hs.append (List.Sublist.refl _))
  · exact po.elim
/-! ### x[a:b], x[::-1] -/
theorem s_eo_no : PO X none (aEo m X W .no) := by
  refine ⟨fun pins s σ H Q I ⟨S, O, ρ, B, hρ, w, hp⟩ => ?_⟩
  exact po_none.run pins s σ H Q I (hp none S H [] B (fun _ z => z) Fr.refl ⟨rfl, rfl⟩ hρ (by simpa using w))
theorem s_eo_yes {e : E} {a : Expr} (ha : PE X a (aE m X W e)) : PO X (some a) (aEo m X W (.yes e)) := by
  refine ⟨fun pins s σ H Q I ⟨S, O, ρ, B, hρ, w, hp⟩ => ?_⟩
  refine (po_some ha).run pins s σ H Q I ?_
  simp only [Eo.go] at hp
  refine ⟨S, O, ρ, B, hρ, w, (Post.bnd0 hp).imp fun v H1 ⟨d, ρ1, S1, A1, B1, n⟩ => ?_⟩
  have po := n.post
  obtain ⟨A', r, e⟩ := n.v
  split at po
  · rename_i i ei
    rw [ei] at r
    refine ⟨i, r.int_, po (some i) S1 H1 [] B1 n.sub (n.fr.weak fun z => z) ⟨rfl, rfl⟩ n.env ?_⟩
    simpa using n.ow.drop1
  · exact po.elim
theorem Reps.cut {K : PySem.W.Frag} {ca : CA} {S : Own} {H : Hp} {vs : List V} {ds : List D} (r : Reps K ca S H vs ds []) (lo hi : Option Int) : Reps K ca S H (cutV vs lo hi) (cutD ds lo hi) [] := by
  unfold cutV cutD
  rw [r.length]
  exact (r.drop _).take _
theorem sl_of {K : PySem.W.Frag} {ca : CA} {S : Own} {H : Hp} {L : List Addr} {x : V} {dx d : D} {A : List Addr} {lo hi : Option Int} {Q : V → Hp → Prop} (w : Ow S H L) (r1 : Rep K ca S H x dx A) (e : slD dx lo hi = some d) (q : Res K ca S H d Q) :
    rSlL K x lo hi H Q ∨ rSlS x lo hi H Q := by
  unfold slD at e
  split at e
  · split at e
    · rename_i hc
      cases e
      obtain ⟨a, vs, A', rfl, h1, q1, k1⟩ := r1.lst_
      obtain rfl := k1 hc
      exact .inl ⟨a, vs, rfl, SqL.of h1, fun p hp => q.new w hp fun S' H' hs hh e => .lstO (A := []) e ((q1.frame hs hh fun _ h => nomatch h).cut _ _)⟩
    · cases e
  · split at e
    · rename_i hz
      cases e
      exact .inr ⟨_, r1.str_, hz, q.flat (.str _)⟩
    · cases e
  · cases e
theorem s_sl {x : E} {lo hi : Eo} {a : Expr} {l h : Option Expr} {p : Pos} (ha : PE X a (aE m X W x)) (hl : PO X l (aEo m X W lo)) (hh : PO X h (aEo m X W hi)) : PE X (.Subscript a (.Slice l h none p) pos) (aE m X W (.sl x lo hi)) := by
  refine PE.imp (pe_slice (sl_list.or sl_str) ha hl hh) fun σ H Q ⟨S, O, ρ, B, hρ, w, hp⟩ => ?_
  simp only [E.go] at hp
  refine ⟨S, O, ρ, B, hρ, w, (Post.bnd0 hp).imp fun v H1 ⟨d, ρ1, S1, A1, B1, n⟩ => ?_⟩
  have po := n.post
  split at po
  · rename_i hc
    refine ⟨S1, A1 ++ O, ρ1, B1, n.env, n.ow.r1, (Post.bndN po n.sub n.fr).imp fun l H2 ⟨l', ρ2, S2, A2, B2, n2⟩ => ?_⟩
    obtain ⟨rfl, rfl⟩ := n2.v
    have sub2 : ∀ z, S z → S2 z := fun x z => n2.sub x (n.sub x z)
    have fr2 : Fr false S O H H2 := (n.fr.trans n2.fr n.sub fun a ha => List.mem_append_right _ ha).weak (by intro z; cases z)
    have w2 : Ow S2 H2 (B2 ++ (A1 ++ O)) := by simpa using n2.ow
    refine ⟨S2, A1 ++ O, ρ2, B2, n2.env, w2, (Post.bndN (A1 := A1) n2.post sub2 fr2).imp fun h H3 ⟨h', ρ3, S3, A3, B3, n3⟩ => ?_⟩
    obtain ⟨rfl, rfl⟩ := n3.v
    have po3 := n3.post
    have w3 : Ow S3 H3 (B3 ++ O) := by
      have : Ow S3 H3 (B3 ++ (A1 ++ O)) := by simpa using n3.ow
      exact this.sub ((List.Sublist.refl _).append (List.sublist_append_right _ _))
    have rr : ∃ A, Rep X.K m.ca S3 H3 v d.1 A := by
      obtain ⟨A', r, e⟩ := n.v
      have s13 : ∀ z, S1 z → S3 z := fun x z => n3.sub x (n2.sub x z)
      refine ⟨A', r.frame s13 (fun a ha => (n3.fr.st a (.inl (n2.sub a ha))).trans (n2.fr.st a (.inl ha))) fun a ha => ?_⟩
      cases hlo : d.2 with
      | false =>
        rw [hlo] at e
        simp only [Bool.false_eq_true, if_false] at e
        have ha' : a ∈ A1 ++ O := List.mem_append_left _ (e ▸ ha)
        exact (n3.fr.st a (.inr ha')).trans (n2.fr.st a (.inr ha'))
      | true =>
        simp only [hlo, Bool.not_true, Bool.false_or, Bool.or_eq_true, Bool.and_eq_true] at hc
        rcases hc with hc | hc
        · rw [r.nil_of hc] at ha
          exact nomatch ha
        · obtain ⟨o, q⟩ := r.some_ a ha
          rw [n3.fr.ext hc.2 a o (n2.fr.ext hc.1 a o q), q]
    obtain ⟨A, r⟩ := rr
    cases ef : slD d.1 l h with
    | none => rw [ef] at po3; exact po3.elim
    | some z =>
      rw [ef] at po3
      exact sl_of w3 r ef (po3.res (pu1 := false) (fun x z => n3.sub x (sub2 x z)) ((fr2.trans n3.fr sub2 fun a ha => List.mem_append_right _ ha).weak (by intro z; cases z)) (by intro z; cases z) n3.env w3)
  · exact po.elim
theorem s_rev {x : E} {a : Expr} {k : Nat} {p1 p2 p3 : Pos} (ha : PE X a (aE m X W x)) : PE X (.Subscript a (.Slice none none (some (.UnaryOp .USub (.Constant (.int 1) k p1) p2)) p3) pos) (aE m X W (.u .rev x)) := by
  refine PE.imp (pe_revL ha) fun σ H Q q => ?_
  obtain ⟨S, O, ρ, B, hρ, w, hp⟩ := rd_1 (f := U1.rev.go) (fun z => z) q
  refine ⟨S, O, ρ, B, hρ, w, hp.imp fun v H1 ⟨S, L, dx, A, d, w, r, e, q⟩ => ?_⟩
  change revD dx = some d at e
  unfold revD at e
  split at e
  · split at e
    · rename_i hc
      cases e
      obtain ⟨a, vs, A', rfl, h1, q1, k1⟩ := r.lst_
      obtain rfl := k1 hc
      exact ⟨a, vs, rfl, SqL.of h1, fun p hp => q.new w hp fun S' H' hs hh e => .lstO (A := []) e (q1.frame hs hh fun _ h => nomatch h).rev⟩
    · cases e
  · cases e
/-! ### x.index(y) -/
theorem findIdx_eqF {ds : List D} {x : D} {j : Nat} (h : ds.findIdx? (fun z => eqF z x) = some j) : ∃ d, ds[j]? = some d ∧ eqF d x = true ∧ ∀ k d', k < j → ds[k]? = some d' → eqF d' x = false := by
  rw [List.findIdx?_eq_some_iff_getElem] at h
  obtain ⟨h1, h2, h3⟩ := h
  refine ⟨ds[j], List.getElem?_eq_getElem h1, h2, fun k d' hk hd => ?_⟩
  have := h3 k hk
  obtain ⟨h4, h5⟩ := List.getElem?_eq_some_iff.mp hd
  rw [← h5]
  simpa using this
theorem attrBase {e : Expr} {f : Str} {env : Env} (h : f ≠ "__class__" := by decide) (hs : ∀ id p q, e = .Call (.Name id p) [] [] q → id ≠ "super") : attributeBase e f env (eval e env) = eval e env := by
  unfold attributeBase
  split
  · rename_i id p q
    rw [if_pos (by simp [hs id p q rfl])]
  · rfl
end
end Hm
end
section
set_option Elab.async false
set_option linter.all false
set_option maxRecDepth 100000
/-! Each form of the language, by its parts: isinstance, tests, displays, what is taken in. -/
namespace Hm
open PySem PySem.Spec PyProof.Rows L2
section
variable {m : Pm} {X : Cx} {W : WX} {c : Ctx} {pos : Pos}
/-- no call of super() -/
theorem attrB {e : Expr} {f : Str} {env : Env} (hs : notSu e = true) : attributeBase e f env (eval e env) = eval e env := by
  unfold attributeBase
  split
  · rename_i id p q
    simp only [notSu, Bool.not_eq_true', decide_eq_false_iff_not] at hs
    rw [if_pos (by simp [hs])]
  · rfl
theorem s_idx {x y : E} {a b : Expr} {p : Pos} (h1 : p.endLine = pos.line) (h2 : notSt b = true) (h3 : notSu a = true) (ha : PE X a (aE m X W x)) (hb : PE X b (aE m X W y)) : PE X (.Call (.Attribute a "index" p) [b] [] pos) (aE m X W (.idx x y)) := by
  have st2 : starEach [b] X.env = (false, eval b X.env) :: starEach [] X.env := star_cons h2 [] X.env
  refine PE.imp (pe_bm PySem.F.plainAttrs_list PySem.F.slot_list_index PySem.F.type_list_index mt_index ha (pa_cons hb pa_nil st2) (attrB h3) (by rw [st2]; rfl) (by simpa using h1) st2 rfl) fun σ H Q ⟨S, O, ρ, B, hρ, w, hp⟩ => ?_
  simp only [E.go] at hp
  have hpu : (E.idx x y).pu = true → x.pu = true ∧ y.pu = true := fun z => by simpa [E.pu] using z
  refine ⟨S, O, ρ, B, hρ, w, (Post.bnd0 hp).imp fun v H1 ⟨d, ρ1, S1, A1, B1, n⟩ => ?_⟩
  have po := n.post
  split at po
  · rename_i o xs hd
    split at po
    · rename_i hh
      obtain ⟨A0, r0, _⟩ := id n.v
      rw [hd] at r0
      obtain ⟨a0, vs0, _, ev, hl0, _, _⟩ := r0.lst_
      refine ⟨by subst ev; exact .inl ⟨rfl, _, SqL.of hl0⟩, ?_⟩
      refine ⟨S1, A1 ++ O, ρ1, B1, n.env, n.ow.r1, (Post.bndN po n.sub n.fr).imp fun u H2 ⟨b, ρ2, S2, A2, B2, n2⟩ => ?_⟩
      obtain ⟨A', r⟩ := vE.held n.v hh n2.sub n2.fr
      obtain ⟨A2', r2, e2⟩ := n2.v
      have po2 := n2.post
      rw [hd] at r
      split at po2
      · rename_i hf
        cases ef : xs.findIdx? (fun z => eqF z b.1) with
        | none => rw [ef] at po2; exact po2.elim
        | some j =>
          rw [ef] at po2
          obtain ⟨d', h4, h5, h6⟩ := findIdx_eqF ef
          obtain ⟨a1, vs1, A1', ev1, hl1, q1, _⟩ := r.lst_
          obtain ⟨z, Az, hz1, hz2, _⟩ := q1.get h4
          have fd : d'.flat = true := (List.all_eq_true.mp hf.2) d' (List.mem_of_getElem? h4)
          refine ⟨a1, vs1, u, j, z, ev1, rfl, SqL.of hl1, r2.flatV hf.1, q1.flat hf.2, hz1, ?_, fun k z' hk hz' => ?_, ?_⟩
          · rw [hz2.eqV r2 fd hf.1]; exact h5
          · have hlen : k < xs.length := by
              have h7 := (List.getElem?_eq_some_iff.mp hz').1
              rw [q1.length] at h7
              exact h7
            obtain ⟨z2, Az2, hz3, hz4, _⟩ := q1.get (List.getElem?_eq_getElem hlen)
            rw [hz'] at hz3
            cases hz3
            have fd2 : xs[k].flat = true := (List.all_eq_true.mp hf.2) _ (List.getElem_mem hlen)
            rw [hz4.eqV r2 fd2 hf.1]
            exact h6 k _ hk (List.getElem?_eq_getElem hlen)
          · have w2 : Ow S2 H2 (B2 ++ O) := n2.ow.drop1.sub ((List.Sublist.refl _).append (List.sublist_append_right _ _))
            refine Res.flat (Post.res po2 (fun x z => n2.sub x (n.sub x z)) (n.fr.trans n2.fr n.sub fun a ha => List.mem_append_right _ ha) (fun z => ?_) n2.env w2) (.int _)
            rw [(hpu z).1, (hpu z).2]; rfl
      · exact po2.elim
    · exact po.elim
  · exact po.elim
/-! ### isinstance -/
theorem pe_ty (hx : CtxOk m c X W) {x y : Str} {s : String} {k : Ty} (h : k.n = some (x, s)) (hb : blB m.t c x = true) : PE X (.Name x pos) (tC (.ty s)) := by
  obtain ⟨b1, b2, b3⟩ := Ty.n_boot h
  obtain ⟨q1, q2, q3, q4⟩ := hx.bl hb
  exact pe_bltn q1 q4 b1 rfl b2 b3
theorem mTy_ {k : Ty} {e : Expr} (h : mTy m.t c k e = true) : ∃ x s p, e = .Name x p ∧ k.n = some (x, s) ∧ blB m.t c x = true := by
  unfold mTy at h
  split at h
  · split at h
    · rename_i y s e1
      simp only [Bool.and_eq_true, decide_eq_true_eq] at h
      obtain ⟨rfl, h2⟩ := h
      exact ⟨_, _, _, rfl, e1, h2⟩
    · cases h
  · cases h
theorem isi_kit {K : PySem.W.Frag} {ca : CA} {S : Own} {H : Hp} {v : V} {d : D} {A : List Addr} (r : Rep K ca S H v d A) {t : Ty} {b : Bool} {x : Str} {s : String} (e : d.isi t = some b) (h : t.n = some (x, s)) : ∃ u : Value, TyX K H v u ∧ PySem.W.kitOne K u (.type s) = some b := by
  obtain ⟨u, h1, h2⟩ := isi_ty r e
  exact ⟨u, h1, h2 t b x s e h⟩
theorem s_isi1 (hx : CtxOk m c X W) {k : Ty} {x : E} {a y : Expr} {p : Pos} (hb : blB m.t c "isinstance" = true) (h1 : notSt a = true) (h2 : notSt y = true) (ha : PE X a (aE m X W x)) (h : mTy m.t c k y = true) : PE X (.Call (.Name "isinstance" p) [a, y] [] pos) (aE m X W (.u (.isi [k]) x)) := by
  obtain ⟨nm, s, p', rfl, e1, e2⟩ := mTy_ h
  refine PE.imp (call2 hx hb PyProof.Rows.boot_isinstance (.inl ⟨_, rfl⟩) call_isi h1 h2 ha (pe_ty hx (y := nm) e1 e2)) fun σ H Q q => ?_
  obtain ⟨S, O, ρ, B, hρ, w, hp⟩ := rd_1 (f := (U1.isi [k]).go) (fun z => z) q
  refine ⟨S, O, ρ, B, hρ, w, hp.imp fun v H1 ⟨S, L, dx, A, d, w, r, e, q⟩ => ?_⟩
  obtain ⟨b, e3, rfl⟩ := Option.map_eq_some_iff.mp (show (isiD [k] dx).map D.bl = some d from e)
  simp only [isiD] at e3
  split at e3
  · rename_i b1 b2 e4 e5
    cases e5
    cases e3
    obtain ⟨u, h3, h4⟩ := isi_kit r e4 e1
    refine ⟨v, .ty s, u, .type s, b1, rfl, .ty s, h3, h4, ?_⟩
    have := q.flat (.bl _)
    rwa [Bool.or_false] at this
  · cases e3
/-- a tuple of built-in kinds -/
theorem mTys_ : ∀ {ks : List Ty} {es : List Expr}, mTys m.t c ks es = true → ∀ (hx : CtxOk m c X W), ∃ ss : List String, PA X es (fun _ H Q => Q (ss.map V.ty) H) ∧ ss.length = ks.length ∧ ∀ (i : Nat) (k : Ty), ks[i]? = some k → ∃ x s, ss[i]? = some s ∧ k.n = some (x, s)
  | [], [], _, _ => ⟨[], pa_nil, rfl, fun i k h => by simp at h⟩
  | [], _ :: _, h, _ => by simp [mTys] at h
  | _ :: _, [], h, _ => by simp [mTys] at h
  | k :: ks, e :: es, h, hx => by
    simp only [mTys, Bool.and_eq_true] at h
    obtain ⟨ss, h1, h2, h3⟩ := mTys_ h.2.2 hx
    obtain ⟨x, s, p, rfl, e1, e2⟩ := mTy_ h.2.1
    refine ⟨s :: ss, PA.imp (pa_cons (pe_ty hx (y := x) e1 e2) h1 (star_cons h.1 es X.env)) fun σ H Q q => q, by simp [h2], fun i k' hk => ?_⟩
    cases i with
    | zero =>
      simp at hk; subst hk
      exact ⟨x, s, rfl, e1⟩
    | succ i => exact h3 i k' (by simpa using hk)
theorem kitAny_isi {K : PySem.W.Frag} {ca : CA} {S : Own} {H : Hp} {v : V} {d : D} {A : List Addr} (r : Rep K ca S H v d A) : ∀ {ks : List Ty} {ss : List String} {b : Bool}, isiD ks d = some b → ss.length = ks.length → (∀ (i : Nat) (k : Ty), ks[i]? = some k → ∃ x s, ss[i]? = some s ∧ k.n = some (x, s)) →
    ∀ u, TyX K H v u → (∀ (t : Ty) (b : Bool) (x : Str) (s : String), d.isi t = some b → t.n = some (x, s) → PySem.W.kitOne K u (.type s) = some b) → PySem.W.kitAny K u (ss.map Value.type) = some b
  | [], ss, b, e, hl, _, u, _, _ => by
    obtain rfl : ss = [] := List.length_eq_zero_iff.mp hl
    cases e
    exact kitAny_nil
  | k :: ks, [], b, e, hl, _, u, _, _ => by simp at hl
  | k :: ks, s :: ss, b, e, hl, hk, u, hu, hkit => by
    simp only [isiD] at e
    split at e
    · rename_i b1 b2 e1 e2
      cases e
      obtain ⟨x, s', h1, h2⟩ := hk 0 k rfl
      obtain rfl : s = s' := by simpa using h1
      have ih := kitAny_isi r e2 (by simpa using hl) (fun i k' h => by simpa using hk (i + 1) k' (by simpa using h)) u hu hkit
      exact kitAny_cons (hkit k b1 x s e1 h2) (fun z => by rw [z]; simpa using ih) (fun z => by rw [z]; rfl)
    · cases e
theorem s_isiT (hx : CtxOk m c X W) {ks : List Ty} {x : E} {a : Expr} {ys : List Expr} {p p2 : Pos} {n : Nat} (hb : blB m.t c "isinstance" = true) (hz : ks.length ≤ 1000) (hne : ks.isEmpty = false) (h1 : notSt a = true) (ha : PE X a (aE m X W x)) (h : mTys m.t c ks ys = true) : PE X (.Call (.Name "isinstance" p) [a, .Tuple ys n p2] [] pos) (aE m X W (.u (.isi ks) x)) := by
  obtain ⟨ss, q1, q2, q3⟩ := mTys_ h hx
  refine PE.imp (call2 hx hb PyProof.Rows.boot_isinstance (.inl ⟨_, rfl⟩) call_isiT h1 rfl ha (pe_tup q1)) fun σ H Q q => ?_
  obtain ⟨S, O, ρ, B, hρ, w, hp⟩ := rd_1 (f := (U1.isi ks).go) (fun z => z) q
  refine ⟨S, O, ρ, B, hρ, w, hp.imp fun v H1 ⟨S, L, dx, A, d, w, r, e, q⟩ => ?_⟩
  obtain ⟨b, e3, rfl⟩ := Option.map_eq_some_iff.mp (show (isiD ks dx).map D.bl = some d from e)
  have hz' : (ss.map V.ty).length ≤ sizeLine := by
    rw [List.length_map, q2]
    exact Nat.le_trans hz (by decide)
  refine ⟨hz', fun p hp => ?_⟩
  have ext : ∀ a o, H1 a = some o → (upd H1 p (.tup (ss.map V.ty))) a = some o := fun a o e => by rw [upd_ne (ne_of_none e hp)]; exact e
  have r' : Rep X.K m.ca S (upd H1 p (.tup (ss.map V.ty))) v dx A := r.frame (fun _ z => z) (fun a ha => by
    obtain ⟨o, e⟩ := w.com a ha
    rw [ext a o e, e]) fun a ha => by
    obtain ⟨o, e⟩ := r.some_ a ha
    rw [ext a o e, e]
  -- the kinds asked for are all told
  have hk : ∃ u : Value, TyX X.K (upd H1 p (.tup (ss.map V.ty))) v u ∧ PySem.W.kitAny X.K u (ss.map Value.type) = some b := by
    cases ks with
    | nil => cases hne
    | cons k ks =>
      have e4 := e3
      simp only [isiD] at e4
      split at e4
      · rename_i b1 b2 e5 e6
        obtain ⟨u, h3, h4⟩ := isi_ty r' e5
        exact ⟨u, h3, kitAny_isi r' e3 q2 q3 u h3 h4⟩
      · cases e4
  obtain ⟨u, h3, h4⟩ := hk
  have cls : ∀ l : List String, Paired ClsV (l.map V.ty) (l.map Value.type) := fun l => by
    induction l with
    | nil => exact .nil
    | cons s l ih => exact .cons (.ty s) ih
  exact ⟨v, p, ss.map V.ty, u, ss.map Value.type, b, rfl, upd_same, cls ss, h3, h4, q (.bl b) S _ [] (fun _ z => z) ext (fun _ z => .inl z) (fun _ z n => absurd z n) (.bl b) (fun _ h => nomatch h) List.nodup_nil⟩
end
end Hm
end
section
set_option Elab.async false
set_option linter.all false
set_option maxRecDepth 100000
/-! Each form of the language, by its parts: tests, displays, what is taken in. -/
namespace Hm
open PySem PySem.Spec PyProof.Rows L2
section
variable {m : Pm} {X : Cx} {W : WX} {c : Ctx} {pos : Pos}
/-! ### tests -/
theorem isEmpty_len {α β : Type} {a : List α} {b : List β} (h : a.length = b.length) : b.isEmpty = a.isEmpty := by
  cases a <;> cases b <;> first | rfl | (simp at h)
theorem tru_of {K : PySem.W.Frag} {ca : CA} {S : Own} {H : Hp} {v : V} {d : D} {A : List Addr} (r : Rep K ca S H v d A) {k : Bool} (e : truD d = some k) : TruV K v H k := by
  unfold truD at e
  split at e
  · cases e; rw [r.non_]; rfl
  · cases e; rw [r.bl_]; rfl
  · cases e; rw [r.int_]; rfl
  · split at e
    · rename_i hz
      cases e; rw [r.str_]; exact ⟨hz, rfl⟩
    · cases e
  · cases e
    obtain ⟨a, vs, A', rfl, h1, q1, _⟩ := r.lst_
    exact .inl ⟨vs, SqL.of h1, by rw [isEmpty_len q1.length]⟩
  · cases e
    obtain ⟨a, vs, A', rfl, h1, q1, _⟩ := r.tup_
    exact .inr (.inl ⟨vs, h1, by rw [isEmpty_len q1.length]⟩)
  · cases e
    obtain ⟨a, kvs, A', rfl, h1, rfl, q1, _⟩ := r.dK_
    refine .inr (.inr ⟨kvs, h1, ?_⟩)
    cases kvs <;> rfl
  · cases e
/-- a value whose truth is k -/
def TruQ (X : Cx) (m : Pm) (Q : Bool → Hp → Prop) (v : V) (H : Hp) : Prop := ∃ S A d k, Rep X.K m.ca S H v d A ∧ truD d = some k ∧ Q k H
theorem rd_T {e : E} {σ : L2.St} {H : Hp} {Q : Bool → Hp → Prop} (h : aT m X W (.e e) σ H Q) : aE m X W e σ H (TruQ X m Q) := by
  obtain ⟨S, O, ρ, B, hρ, w, hp⟩ := h
  simp only [T.tst] at hp
  refine ⟨S, O, ρ, B, hρ, w, (Post.bnd0 hp).imp fun v H1 ⟨d, ρ1, S1, A1, B1, n⟩ => ?_⟩
  obtain ⟨A', r, e⟩ := n.v
  have po := n.post
  cases ef : truD d.1 with
  | none => rw [ef] at po; exact po.elim
  | some u =>
    rw [ef] at po
    exact ⟨S1, A', d.1, u, r, ef, po u S1 H1 [] B1 n.sub (n.fr.weak (by intro z; cases z)) ⟨rfl, rfl⟩ n.env (by simpa using n.ow.drop1)⟩
theorem Rep.of_bl {K : PySem.W.Frag} {ca : CA} {S : Own} {H : Hp} {b : Bool} {d : D} {A : List Addr} (r : Rep K ca S H (.bl b) d A) : d = .bl b := by cases r; rfl
theorem rB_bl {f : D → D → Option D} {x y : V} {H : Hp} {Q : Bool → Hp → Prop} (hb : ∀ a b d, f a b = some d → ∃ k, d = .bl k) (h : rB X.K m.ca f x y H (TruQ X m Q)) : rB X.K m.ca f x y H fun z H' => ∃ k, z = .bl k ∧ Q k H' := by
  obtain ⟨S, L, dx, dy, A, B, d, w, r1, r2, e, q⟩ := h
  refine ⟨S, L, dx, dy, A, B, d, w, r1, r2, e, fun v S' H' N h1 h2 h3 h3' h4 h5 h6 => ?_⟩
  obtain ⟨k, rfl⟩ := hb _ _ _ e
  obtain rfl := h4.bl_
  obtain ⟨S2, A2, d2, k2, r, e2, qq⟩ := q _ S' H' N h1 h2 h3 h3' h4 h5 h6
  obtain rfl := r.of_bl
  cases e2
  exact ⟨k, rfl, qq⟩
theorem t_plain {e : E} {a : Expr} (hp : plainT a = true) (ha : PE X a (aE m X W e)) : PT X a (aT m X W (.e e)) :=
  PT.imp (pt_truth ha (isTrue_plain hp X.env)) fun σ H Q q => by
    obtain ⟨S, O, ρ, B, hρ, w, hp⟩ := rd_T q
    exact ⟨S, O, ρ, B, hρ, w, hp.imp fun v H1 ⟨S, A, d, k, r, e, q⟩ => ⟨k, tru_of r e, q⟩⟩
theorem aE_imp {e : E} {σ : L2.St} {H : Hp} {Q Q' : V → Hp → Prop} (h : aE m X W e σ H Q) (k : ∀ v H', Q v H' → Q' v H') : aE m X W e σ H Q' := by
  obtain ⟨S, O, ρ, B, hρ, w, hp⟩ := h
  exact ⟨S, O, ρ, B, hρ, w, hp.imp k⟩
theorem t_cmp (hx : CtxOk m c X W) {o : B2} {op : CmpOp} {x y : E} {a b : Expr} (h : o.cm = some op) (hm : behindInMarks op b = false) (ha : PE X a (aE m X W x)) (hb : PE X b (aE m X W y)) : PT X (.Compare a [op] [b] pos) (aT m X W (.e (.b o x y))) :=
  PT.imp (pt_cmpR (cmpR2 hx h) ha hb hm) fun σ H Q q => by
    have q1 := rd_2 (f := o.go) (fun z => by simpa [E.pu] using z) (rd_T q)
    exact aE_imp q1 fun v H1 q2 => aE_imp q2 fun u H2 q3 => rB_bl (fun a b d e => cmp_bl h e) q3
/-! ### a < b < c -/
theorem rd_ch (hx : CtxOk m c X W) {o p : B2} {op : CmpOp} (h : o.cm = some op) {x y z : E} {σ : L2.St} {H : Hp} {Q : V → Hp → Prop} (q : aE m X W (.ch o p x y z) σ H Q) :
    aE m X W x σ H fun v H1 => aE m X W y σ H1 fun u H2 => rB X.K m.ca o.go v u H2 fun t H3 => ∃ k, t = .bl k ∧ (if k = true then aE m X W z σ H3 fun s H4 => rB X.K m.ca p.go u s H4 Q else Q (.bl false) H3) := by
  obtain ⟨S, O, ρ, B, hρ, w, hp⟩ := q
  simp only [E.go] at hp
  split at hp
  · rename_i hpu
    simp only [Bool.and_eq_true] at hpu
    refine ⟨S, O, ρ, B, hρ, w, (Post.bnd0 hp).imp fun v H1 ⟨a, ρ1, S1, A1, B1, n⟩ => ?_⟩
    refine ⟨S1, A1 ++ O, ρ1, B1, n.env, n.ow.r1, (Post.bndN n.post n.sub n.fr).imp fun u H2 ⟨b, ρ2, S2, A2, B2, n2⟩ => ?_⟩
    obtain ⟨A', r⟩ := vE.held (y := y) n.v (by simp [held, hpu.1]) n2.sub n2.fr
    obtain ⟨A2', r2, e2⟩ := id n2.v
    have po2 := n2.post
    have sub2 : ∀ z, S z → S2 z := fun x z => n2.sub x (n.sub x z)
    have fr2 : Fr false S O H H2 := (n.fr.trans n2.fr n.sub fun a ha => List.mem_append_right _ ha).weak (by intro z; cases z)
    have w2 : Ow S2 H2 (A2 ++ (B2 ++ (A1 ++ O))) := by simpa [List.append_assoc] using n2.ow
    cases ef : o.go a.1 b.1 with
    | none => rw [ef] at po2; exact po2.elim
    | some t =>
      rw [ef] at po2
      obtain ⟨k, rfl⟩ := cmp_bl h ef
      refine ⟨S2, A2 ++ (B2 ++ (A1 ++ O)), a.1, b.1, A', A2', _, w2, r, r2, ef, Res.use w2 fun t' S3 H3 N h1 h2 h3 h4 => ?_⟩
      obtain rfl := h3.bl_
      refine ⟨k, rfl, ?_⟩
      have sub3 : ∀ z, S z → S3 z := fun x z => h1 x (sub2 x z)
      have fr3 : Fr false S O H H3 := (fr2.trans h2 sub2 fun a ha => List.mem_append_right _ (List.mem_append_right _ (List.mem_append_right _ ha))).weak (by intro z; cases z)
      have env3 : RepE X.K m.ca S3 H3 σ ρ2 B2 := n2.env.frame h1 (fun a ha => h2.st a (.inl ha)) fun a ha => h2.st a (.inr (List.mem_append_right _ (List.mem_append_left _ ha)))
      have w3 : Ow S3 H3 (B2 ++ (A2 ++ O)) := by
        have w4 : Ow S3 H3 (A2 ++ (B2 ++ (A1 ++ O))) := h4.sub (List.sublist_append_right _ _)
        have w5 : Ow S3 H3 (A2 ++ (B2 ++ O)) := w4.sub ((List.Sublist.refl _).append ((List.Sublist.refl _).append (List.sublist_append_right _ _)))
        exact w5.perm (List.perm_append_comm_assoc B2 A2 O)
      cases k with
      | false =>
        refine po2 (.bl false) S3 H3 [] B2 sub3 ((fr3).weak (by intro z; cases z)) ⟨[], .bl false, rfl⟩ env3 ?_
        exact w3.sub ((List.Sublist.refl _).append (List.sublist_append_right _ _))
      | true =>
        rw [if_pos rfl]
        refine ⟨S3, A2 ++ O, ρ2, B2, env3, w3, (Post.bndN (A1 := A2) po2 sub3 fr3).imp fun s H4 ⟨c', ρ3, S4, A4, B4, n4⟩ => ?_⟩
        obtain ⟨A4', r4, e4⟩ := n4.v
        have po4 := n4.post
        -- b stands on
        have v3 : vE X.K m.ca b u S3 H3 A2 := by
          obtain ⟨A2', r2, e2⟩ := n2.v
          refine ⟨A2', r2.frame h1 (fun a ha => h2.st a (.inl ha)) fun a ha => ?_, e2⟩
          cases hlo : b.2 with
          | false =>
            rw [hlo] at e2
            simp only [Bool.false_eq_true, if_false] at e2
            exact h2.st a (.inr (List.mem_append_left _ (e2 ▸ ha)))
          | true =>
            obtain ⟨o', q'⟩ := r2.some_ a ha
            rw [h2.ext rfl a o' q', q']
        obtain ⟨A5, r5⟩ := vE.held (y := z) v3 (by simp [held, hpu.2]) n4.sub n4.fr
        cases eg : p.go b.1 c'.1 with
        | none => rw [eg] at po4; exact po4.elim
        | some t2 =>
          rw [eg] at po4
          have w6 : Ow S4 H4 (B4 ++ O) := n4.ow.drop1.sub ((List.Sublist.refl _).append (List.sublist_append_right _ _))
          refine ⟨S4, B4 ++ O, b.1, c'.1, A5, A4', t2, w6, r5, r4, eg, Post.res (pu1 := false) po4 (fun x z => n4.sub x (sub3 x z)) ((fr3.trans n4.fr sub3 fun a ha => List.mem_append_right _ ha).weak (by intro z; cases z)) (by intro z; cases z) n4.env w6⟩
  · exact hp.elim
theorem s_ch (hx : CtxOk m c X W) {o p : B2} {op op' : CmpOp} {x y z : E} {a b d : Expr} (h : o.cm = some op) (h' : p.cm = some op') (hm : lastMarks [op, op'] [b, d] = false) (ha : PE X a (aE m X W x)) (hb : PE X b (aE m X W y)) (hd : PE X d (aE m X W z)) : PE X (.Compare a [op, op'] [b, d] pos) (aE m X W (.ch o p x y z)) :=
  PE.imp (pe_chain (cmpR2 hx h) (cmpR2 hx h') ha hb hd hm) fun σ H Q q => rd_ch hx h q
theorem t_ch (hx : CtxOk m c X W) {o p : B2} {op op' : CmpOp} {x y z : E} {a b d : Expr} (h : o.cm = some op) (h' : p.cm = some op') (hm : lastMarks [op, op'] [b, d] = false) (ha : PE X a (aE m X W x)) (hb : PE X b (aE m X W y)) (hd : PE X d (aE m X W z)) : PT X (.Compare a [op, op'] [b, d] pos) (aT m X W (.e (.ch o p x y z))) :=
  PT.imp (pt_chain (cmpR2 hx h) (cmpR2 hx h') ha hb hd hm) fun σ H Q q => by
    refine aE_imp (rd_ch hx h (rd_T q)) fun v H1 q2 => aE_imp q2 fun u H2 ⟨S, L, dx, dy, A, B, d, w, r1, r2, e, q⟩ => ⟨S, L, dx, dy, A, B, d, w, r1, r2, e, fun v S' H' N h1 h2 h3 h3' h4 h5 h6 => ?_⟩
    obtain ⟨k, e1, e2⟩ := q v S' H' N h1 h2 h3 h3' h4 h5 h6
    refine ⟨k, e1, ?_⟩
    cases k with
    | true => exact aE_imp e2 fun s H4 q3 => rB_bl (fun a b d e => cmp_bl h' e) q3
    | false =>
      obtain ⟨S2, A2, d2, k2, r, e3, qq⟩ := e2
      obtain rfl := r.of_bl
      cases e3
      exact ⟨false, rfl, qq⟩
/-- the rest of an evaluation, asked where the first part has come to -/
theorem ask_rest {α β : Type} {val : Val α β} {K : PySem.W.Frag} {ca : CA} {σ : L2.St} {S S1 : Own} {O B1 : List Addr} {H H1 : Hp} {ρ1 : Ev} {f : Ev → R α} {Q : β → Hp → Prop} {pu pu1 pu2 : Bool} (env : RepE K ca S1 H1 σ ρ1 B1) (w : Ow S1 H1 (B1 ++ O)) (sub : ∀ x, S x → S1 x) (fr : Fr pu1 S O H H1) (hp : pu = true → pu1 = true ∧ pu2 = true)
    (po : Post K ca W σ val pu S O H Q (f ρ1)) : Ask K ca W σ val pu2 f H1 Q := by
  refine ⟨S1, O, ρ1, B1, env, w, ?_⟩
  cases hr : f ρ1 with
  | ok b ρ2 =>
    rw [hr] at po
    exact fun b' S' H' A B h1 h2 h3 h4 h5 => po b' S' H' A B (fun x z => h1 x (sub x z)) ((fr.trans h2 sub fun a ha => ha).weak fun z => by rw [(hp z).1, (hp z).2]; rfl) h3 h4 h5
  | ex xx ρ2 =>
    rw [hr] at po
    exact fun cls dd S' H' A B h1 h2 h3 h4 h5 => po cls dd S' H' A B (fun x z => h1 x (sub x z)) (Fr.weak (pu' := false) ((fr.weak (pu' := false) (by intro z; cases z)).trans h2 sub fun a ha => ha) (by intro z; cases z)) h3 h4 h5
  | bad => rw [hr] at po; exact po
theorem Ask.imp {α β : Type} {val : Val α β} {K : PySem.W.Frag} {ca : CA} {σ : L2.St} {pu : Bool} {f : Ev → R α} {H : Hp} {Q Q' : β → Hp → Prop} (h : Ask K ca W σ val pu f H Q) (k : ∀ v H', Q v H' → Q' v H') : Ask K ca W σ val pu f H Q' := by
  obtain ⟨S, O, ρ, B, hρ, w, hp⟩ := h
  exact ⟨S, O, ρ, B, hρ, w, hp.imp k⟩
theorem Ask.eq {α β : Type} {val : Val α β} {K : PySem.W.Frag} {ca : CA} {σ : L2.St} {pu : Bool} {f g : Ev → R α} {H : Hp} {Q : β → Hp → Prop} (q : Ask K ca W σ val pu f H Q) (h : ∀ ρ, f ρ = g ρ) : Ask K ca W σ val pu g H Q := by
  have e : f = g := funext h
  rw [← e]
  exact q
/-! ### and, or, not -/
theorem rd_if {x y : T} {f : T → Ev → R Bool} {k : Bool} {σ : L2.St} {H : Hp} {Q : Bool → Hp → Prop}
    (q : Ask X.K m.ca W σ vB false (fun ρ => (f x ρ).bnd fun b ρ => if b = k then f y ρ else .ok (!k) ρ) H Q) :
    Ask X.K m.ca W σ vB false (fun ρ => f x ρ) H fun b H1 => if b = k then Ask X.K m.ca W σ vB false (fun ρ => f y ρ) H1 Q else Q (!k) H1 := by
  obtain ⟨S, O, ρ, B, hρ, w, hp⟩ := q
  refine ⟨S, O, ρ, B, hρ, w, (Post.bnd0 (val := vB) (pu2 := false) hp).imp fun v H1 ⟨a, ρ1, S1, A1, B1, n⟩ => ?_⟩
  obtain ⟨rfl, rfl⟩ := n.v
  have po := n.post
  have w1 : Ow S1 H1 (B1 ++ O) := n.ow.drop1
  by_cases e : v = k
  · rw [if_pos e] at po ⊢
    exact ask_rest (f := fun ρ => f y ρ) n.env w1 n.sub n.fr (by intro z; cases z) po
  · rw [if_neg e] at po ⊢
    exact po (!k) S1 H1 [] B1 n.sub (n.fr.weak (by intro z; cases z)) ⟨rfl, rfl⟩ n.env (by simpa using w1)
theorem rd_not {x : T} {f : T → Ev → R Bool} {σ : L2.St} {H : Hp} {Q : Bool → Hp → Prop}
    (q : Ask X.K m.ca W σ vB false (fun ρ => (f x ρ).bnd fun b ρ => .ok (!b) ρ) H Q) : Ask X.K m.ca W σ vB false (fun ρ => f x ρ) H fun b H1 => Q (!b) H1 := by
  obtain ⟨S, O, ρ, B, hρ, w, hp⟩ := q
  refine ⟨S, O, ρ, B, hρ, w, (Post.bnd0 (val := vB) (pu2 := false) hp).imp fun v H1 ⟨a, ρ1, S1, A1, B1, n⟩ => ?_⟩
  obtain ⟨rfl, rfl⟩ := n.v
  exact n.post (!v) S1 H1 [] B1 n.sub n.fr ⟨rfl, rfl⟩ n.env (by simpa using n.ow.drop1)
theorem tAnd_of {x y : T} {σ : L2.St} {H : Hp} {Q : Bool → Hp → Prop} (q : aT m X W (.an x y) σ H Q) : tAnd (aT m X W x) (aT m X W y) σ H Q :=
  rd_if (f := T.tst m.F) (k := true) (Ask.eq q fun ρ => by simp only [T.tst, Bool.not_true])
theorem or_flip {r : R Bool} {k : Ev → R Bool} : (r.bnd fun b ρ => if b = true then .ok true ρ else k ρ) = r.bnd fun b ρ => if b = false then k ρ else .ok (!false) ρ := by
  congr 1
  funext b ρ
  cases b <;> rfl
theorem tOr_of {x y : T} {σ : L2.St} {H : Hp} {Q : Bool → Hp → Prop} (q : aT m X W (.or x y) σ H Q) : tOr (aT m X W x) (aT m X W y) σ H Q := by
  refine Ask.imp (rd_if (f := T.tst m.F) (k := false) (x := x) (y := y) (Ask.eq q fun ρ => by simp only [T.tst]; exact or_flip)) fun b H1 q => ?_
  cases b with
  | true => exact q
  | false => exact q
theorem tNot_of {x : T} {σ : L2.St} {H : Hp} {Q : Bool → Hp → Prop} (q : aT m X W (.nt x) σ H Q) : tNot (aT m X W x) σ H Q :=
  rd_not (f := T.tst m.F) (Ask.eq q fun ρ => by simp only [T.tst])
/-- as values -/
theorem vAnd_of {x y : T} {σ : L2.St} {H : Hp} {Q : V → Hp → Prop} (q : aV m X W (.an x y) σ H Q) : tAndV (aV m X W x) (aV m X W y) σ H Q :=
  Ask.imp (rd_if (f := T.val m.F) (k := true) (x := x) (y := y) (Ask.eq q fun ρ => by simp only [T.val, Bool.not_true])) fun b H1 q => ⟨b, rfl, q⟩
theorem vOr_of {x y : T} {σ : L2.St} {H : Hp} {Q : V → Hp → Prop} (q : aV m X W (.or x y) σ H Q) : tOrV (aV m X W x) (aV m X W y) σ H Q := by
  refine Ask.imp (rd_if (f := T.val m.F) (k := false) (x := x) (y := y) (Ask.eq q fun ρ => by simp only [T.val]; exact or_flip)) fun b H1 q => ⟨b, rfl, ?_⟩
  cases b with
  | true => exact q
  | false => exact q
theorem vNot_of {x : T} {σ : L2.St} {H : Hp} {Q : V → Hp → Prop} (q : aV m X W (.nt x) σ H Q) : tNotV (aV m X W x) σ H Q :=
  Ask.imp (rd_not (f := T.val m.F) (x := x) (Ask.eq q fun ρ => by simp only [T.val])) fun b H1 q => ⟨b, rfl, q⟩
theorem v_e {e : E} {a : Expr} (ha : PE X a (aE m X W e)) : PE X a (aV m X W (.e e)) :=
  PE.imp ha fun σ H Q ⟨S, O, ρ, B, hρ, w, hp⟩ => by
    simp only [T.val] at hp
    refine ⟨S, O, ρ, B, hρ, w, (Post.bnd0 hp).imp fun v H1 ⟨d, ρ1, S1, A1, B1, n⟩ => ?_⟩
    obtain ⟨A', r, e⟩ := n.v
    have po := n.post
    split at po
    · rename_i b eb
      rw [eb] at r
      rw [r.bl_]
      exact po b S1 H1 [] B1 n.sub (n.fr.weak (by intro z; cases z)) ⟨rfl, rfl⟩ n.env (by simpa using n.ow.drop1)
    · exact po.elim
theorem s_tb {t : T} {a : Expr} (ha : PE X a (aV m X W t)) : PE X a (aE m X W (.tb t)) :=
  PE.imp ha fun σ H Q ⟨S, O, ρ, B, hρ, w, hp⟩ => by
    simp only [E.go] at hp
    refine ⟨S, O, ρ, B, hρ, w, (Post.bnd0 (val := vB) (pu2 := false) hp).imp fun v H1 ⟨d, ρ1, S1, A1, B1, n⟩ => ?_⟩
    obtain ⟨rfl, rfl⟩ := n.v
    exact n.post (.bl v) S1 H1 [] B1 n.sub n.fr ⟨[], .bl v, rfl⟩ n.env (by simpa using n.ow.drop1)
theorem s_ife {k : T} {x y : E} {a b d : Expr} (hk : PT X a (aT m X W k)) (ha : PE X b (aE m X W x)) (hb : PE X d (aE m X W y)) : PE X (.IfExp a b d pos) (aE m X W (.ife k x y)) :=
  PE.imp (pe_ifExp hk ha hb) fun σ H Q ⟨S, O, ρ, B, hρ, w, hp⟩ => by
    simp only [E.go] at hp
    refine ⟨S, O, ρ, B, hρ, w, (Post.bnd0 (val := vB) (pu2 := false) hp).imp fun v H1 ⟨q, ρ1, S1, A1, B1, n⟩ => ?_⟩
    obtain ⟨rfl, rfl⟩ := n.v
    have po := n.post
    have w1 : Ow S1 H1 (B1 ++ O) := n.ow.drop1
    have hz : (E.ife k x y).pu = true → False := fun z => by simp [E.pu] at z
    cases v with
    | true => exact ask_rest (f := fun ρ => x.go m.F ρ) n.env w1 n.sub n.fr (fun z => (hz z).elim) po
    | false => exact ask_rest (f := fun ρ => y.go m.F ρ) n.env w1 n.sub n.fr (fun z => (hz z).elim) po
end
end Hm
end
section
set_option Elab.async false
set_option linter.all false
set_option maxRecDepth 100000
/-! What is taken in; displays; calls. -/
namespace Hm
open PySem PySem.Spec PyProof.Rows L2
theorem R.bnd_assoc {α β γ : Type} (r : R α) (f : α → Ev → R β) (k : β → Ev → R γ) : (r.bnd f).bnd k = r.bnd fun a ρ => (f a ρ).bnd k := by cases r <;> rfl
section
variable {m : Pm} {X : Cx} {W : WX} {c : Ctx} {pos : Pos}
def E.isV : E → Bool
  | .v _ => true
  | _ => false
theorem rd_own {e : E} (h : e.isV = false) {σ : L2.St} {H : Hp} {Q : V → Hp → Prop} (q : aO m X W e σ H Q) : aE m X W e σ H Q := by
    obtain ⟨S, O, ρ, B, hρ, w, hp⟩ := q
    unfold E.ow at hp
    refine ⟨S, O, ρ, B, hρ, w, (Post.bnd0 hp).imp fun v H1 ⟨d, ρ1, S1, A1, B1, n⟩ => ?_⟩
    obtain ⟨A', r, e1⟩ := n.v
    have po := n.post
    unfold own at po
    split at po
    · rename_i hc
      have e2 : A1 = A' := by
        rcases hc with hc | hc
        · rw [r.nil_of hc] at e1 ⊢
          split at e1 <;> exact e1
        · rw [hc] at e1
          simpa using e1
      subst e2
      exact po v S1 H1 A1 B1 n.sub (n.fr.weak (by intro z; cases z)) r n.env n.ow
    · split at po
      · simp [E.isV] at h
      · exact po.elim
theorem s_own {e : E} {a : Expr} (h : e.isV = false) (ha : PE X a (aE m X W e)) : PE X a (aO m X W e) :=
  PE.imp ha fun σ H Q q => rd_own h q
theorem s_vo (hx : CtxOk m c X W) {i : Nat} {x : Str} (h : visB c i x = true) : PE X (.Name x pos) (aO m X W (.v i)) := by
  obtain ⟨h1, h2, h3, h4⟩ := hx.vis h
  refine PE.imp (pe_var h1 h2 h3 h4) fun σ H Q ⟨S, O, ρ, B, hρ, w, hp⟩ => ?_
  unfold E.ow at hp
  simp only [E.go] at hp
  cases e : ρ[i]? with
  | none => rw [e] at hp; exact hp.elim
  | some d =>
    cases d with
    | none => rw [e] at hp; exact hp.elim
    | some d =>
      rw [e] at hp
      simp only [R.bnd_ok] at hp
      obtain ⟨B', q1, q2, q3⟩ := hρ.off i
      obtain ⟨v, A, e1, r, pm⟩ := q3 d e
      refine ⟨v, e1, ?_⟩
      unfold own at hp
      split at hp
      · rename_i hc
        have hc : d.isC = true := hc.resolve_right (by simp)
        have : A = [] := r.nil_of hc
        subst this
        exact hp v S H [] B (fun _ z => z) Fr.refl r hρ (by simpa using w)
      · have hl : i < ρ.length := (List.getElem?_eq_some_iff.mp e).1
        have w2 : Ow S H (A ++ (B' ++ O)) := by
          rw [← List.append_assoc]
          exact w.perm (pm.append_right O)
        have w3 := w2.share
        have sub : ∀ a, S a → (fun a => S a ∨ a ∈ A) a := fun _ z => .inl z
        have r' := r.share sub fun a ha => .inr ha
        obtain ⟨B2, k1, k2⟩ := (q1.frame sub (fun _ _ => rfl) (fun _ _ => rfl)).re i e1 (by simp [hl]) r'
        simp only [List.set_set] at k1
        refine hp v (fun a => S a ∨ a ∈ A) H [] B2 sub Fr.refl r' k1 ?_
        exact w3.perm (by simpa using k2.append_right O)
/-! ### displays -/
theorem s_es_nil : PA X [] (aEs m X W .nil) :=
  PA.imp pa_nil fun σ H Q ⟨S, O, ρ, B, hρ, w, hp⟩ => hp [] S H [] B (fun _ z => z) Fr.refl .nil hρ (by simpa using w)
/-- behind one part, the next: held is what the first has given -/
theorem ask_next {α β γ δ : Type} {val : Val α β} {val2 : Val γ δ} {K : PySem.W.Frag} {ca : CA} {σ : L2.St} {S S1 : Own} {O A1 B1 : List Addr} {H H1 : Hp} {ρ1 : Ev} {f : Ev → R α} {k : α → Ev → R γ} {Q : δ → Hp → Prop} {pu pu1 pu2 : Bool} (env : RepE K ca S1 H1 σ ρ1 B1) (w : Ow S1 H1 (A1 ++ B1 ++ O)) (sub : ∀ x, S x → S1 x) (fr : Fr pu1 S O H H1)
    (po : Post K ca W σ val2 pu S O H Q ((f ρ1).bnd k)) : Ask K ca W σ val pu2 f H1 (fun b H2 => ∃ a ρ2 S2 A2 B2, Nx K ca W σ val val2 pu pu2 S O H Q S1 (A1 ++ O) H1 (f ρ1) k b H2 a ρ2 S2 A2 B2) :=
  ⟨S1, A1 ++ O, ρ1, B1, env, w.r1, Post.bndN po sub fr⟩
theorem s_es_cons {e : E} {r : Es} {a : Expr} {l : List Expr} (hs : notSt a = true) (ha : PE X a (aO m X W e)) (hl : PA X l (aEs m X W r)) : PA X (a :: l) (aEs m X W (.cons e r)) :=
  PA.imp (pa_cons ha hl (star_cons hs l X.env)) fun σ H Q ⟨S, O, ρ, B, hρ, w, hp⟩ => by
    simp only [Es.go] at hp
    rw [← R.bnd_assoc] at hp
    refine ⟨S, O, ρ, B, hρ, w, (Post.bnd0 (val := vO X.K m.ca) (pu2 := false) hp).imp fun v H1 ⟨d, ρ1, S1, A1, B1, n⟩ => ?_⟩
    refine Ask.imp (ask_next (val := vs X.K m.ca) (f := fun ρ => r.go m.F ρ) n.env n.ow n.sub n.fr n.post) fun us H2 ⟨ds, ρ2, S2, A2, B2, n2⟩ => ?_
    have r1 : Rep X.K m.ca S1 H1 v d A1 := n.v
    have r2 : Reps X.K m.ca S2 H2 us ds A2 := n2.v
    refine n2.post (v :: us) S2 H2 (A1 ++ A2) B2 (fun x z => n2.sub x (n.sub x z)) ((n.fr.trans n2.fr n.sub fun a ha => List.mem_append_right _ ha).weak (by intro z; cases z)) (.cons (r1.frame n2.sub (fun a ha => n2.fr.st a (.inl ha)) fun a ha => n2.fr.st a (.inr (List.mem_append_left _ ha))) r2) n2.env ?_
    refine n2.ow.perm ?_
    rw [List.append_assoc, List.append_assoc, List.append_assoc]
    refine (List.perm_append_comm_assoc A1 A2 (B2 ++ O)).trans (List.Perm.append_left A2 ?_)
    exact List.perm_append_comm_assoc A1 B2 O
theorem s_tup {es : Es} {l : List Expr} {k : Nat} (hl : PA X l (aEs m X W es)) : PE X (.Tuple l k pos) (aE m X W (.tup es)) :=
  PE.imp (pe_tup hl) fun σ H Q ⟨S, O, ρ, B, hρ, w, hp⟩ => by
    simp only [E.go] at hp
    refine ⟨S, O, ρ, B, hρ, w, (Post.bnd0 (val := vs X.K m.ca) (pu2 := false) hp).imp fun us H1 ⟨ds, ρ1, S1, A1, B1, n⟩ => ?_⟩
    have po := n.post
    have r : Reps X.K m.ca S1 H1 us ds A1 := n.v
    unfold mkTup at po
    split at po
    · rename_i hz
      refine ⟨by rw [r.length]; exact hz, fun p hp => ?_⟩
      have w1 : Ow S1 H1 (A1 ++ (B1 ++ O)) := by simpa [List.append_assoc] using n.ow
      have fr2 : Fr true S1 (A1 ++ (B1 ++ O)) H1 (upd H1 p (.tup us)) := Fr.new w1 hp
      have ho : ∀ a ∈ O, a ∈ A1 ++ (B1 ++ O) := fun a ha => List.mem_append_right _ (List.mem_append_right _ ha)
      have fr3 : Fr false S O H (upd H1 p (.tup us)) := (n.fr.trans fr2 n.sub ho).weak (by intro z; cases z)
      cases hc : isCs ds with
      | true =>
        have := r.nil_of hc
        subst this
        have s2 : ∀ a, S1 a → (fun a => S1 a ∨ a = p) a := fun _ z => .inl z
        have rr : Rep X.K m.ca (fun a => S1 a ∨ a = p) (upd H1 p (.tup us)) (.ref p) (.tup false ds) [] := .tupS (.inr rfl) upd_same (r.frame s2 (fun a ha => fr2.st a (.inl ha)) fun _ h => nomatch h)
        refine po (.ref p) (fun a => S1 a ∨ a = p) _ [] B1 (fun x z => .inl (n.sub x z)) fr3 ⟨[], by rw [hc]; exact rr, rfl⟩ (n.env.frame s2 (fun a ha => fr2.st a (.inl ha)) fun a ha => fr2.st a (.inr (List.mem_append_right _ (List.mem_append_left _ ha)))) ?_
        simpa using w1.newC (o := .tup us) hp
      | false =>
        have rr : Rep X.K m.ca S1 (upd H1 p (.tup us)) (.ref p) (.tup true ds) (p :: A1) := .tupO upd_same (r.frame (fun _ z => z) (fun a ha => fr2.st a (.inl ha)) fun a ha => fr2.st a (.inr (List.mem_append_left _ ha)))
        refine po (.ref p) S1 _ (p :: A1) B1 n.sub fr3 ⟨p :: A1, by rw [hc]; exact rr, rfl⟩ (n.env.frame (fun _ z => z) (fun a ha => fr2.st a (.inl ha)) fun a ha => fr2.st a (.inr (List.mem_append_right _ (List.mem_append_left _ ha)))) ?_
        have := w1.new (o := .tup us) hp
        simpa [List.append_assoc] using this
    · exact po.elim
theorem s_lst0 : PE X (.List [] pos) (aE m X W (.lst .nil)) :=
  PE.imp (pe_lst pa_nil) fun σ H Q ⟨S, O, ρ, B, hρ, w, hp⟩ => by
    simp only [E.go, Es.go, mkLst] at hp
    refine ⟨Nat.zero_le _, fun p hn => ?_⟩
    have fr2 : Fr true S (B ++ O) H (upd H p (.lst [])) := Fr.new w hn
    refine hp (.ref p) S _ [p] B (fun _ z => z) ((Fr.weak ⟨fun a ha => fr2.st a (ha.imp id fun h => List.mem_append_right _ h), fr2.ext⟩) fun z => rfl) ⟨[p], .lstO upd_same .nil, rfl⟩ (hρ.frame (fun _ z => z) (fun a ha => fr2.st a (.inl ha)) fun a ha => fr2.st a (.inr (List.mem_append_left _ ha))) (w.new hn)
theorem s_lst {e : E} {es : Es} {l : List Expr} (hl : PA X l (aEs m X W (.cons e es))) : PE X (.List l pos) (aE m X W (.lst (.cons e es))) :=
  PE.imp (pe_lst hl) fun σ H Q ⟨S, O, ρ, B, hρ, w, hp⟩ => by
    simp only [E.go] at hp
    refine ⟨S, O, ρ, B, hρ, w, (Post.bnd0 (val := vs X.K m.ca) (pu2 := false) hp).imp fun us H1 ⟨ds, ρ1, S1, A1, B1, n⟩ => ?_⟩
    have po := n.post
    have r : Reps X.K m.ca S1 H1 us ds A1 := n.v
    unfold mkLst at po
    split at po
    · rename_i hz
      refine ⟨by rw [r.length]; exact hz, fun p hp => ?_⟩
      have w1 : Ow S1 H1 (A1 ++ (B1 ++ O)) := by simpa [List.append_assoc] using n.ow
      have fr2 : Fr true S1 (A1 ++ (B1 ++ O)) H1 (upd H1 p (.lst us)) := Fr.new w1 hp
      have ho : ∀ a ∈ O, a ∈ A1 ++ (B1 ++ O) := fun a ha => List.mem_append_right _ (List.mem_append_right _ ha)
      have fr3 : Fr false S O H (upd H1 p (.lst us)) := (n.fr.trans fr2 n.sub ho).weak (by intro z; cases z)
      have rr : Rep X.K m.ca S1 (upd H1 p (.lst us)) (.ref p) (.lst true ds) (p :: A1) := .lstO upd_same (r.frame (fun _ z => z) (fun a ha => fr2.st a (.inl ha)) fun a ha => fr2.st a (.inr (List.mem_append_left _ ha)))
      refine po (.ref p) S1 _ (p :: A1) B1 n.sub fr3 ⟨p :: A1, rr, rfl⟩ (n.env.frame (fun _ z => z) (fun a ha => fr2.st a (.inl ha)) fun a ha => fr2.st a (.inr (List.mem_append_right _ (List.mem_append_left _ ha)))) ?_
      have := w1.new (o := .lst us) hp
      simpa [List.append_assoc] using this
    · exact po.elim
theorem s_dE : PE X (.Dict [] [] pos) (aE m X W .dE) :=
  PE.imp pe_dnewK fun σ H Q ⟨S, O, ρ, B, hρ, w, hp⟩ => by
    simp only [E.go] at hp
    intro p hn
    have fr2 : Fr true S (B ++ O) H (upd H p (.dK [])) := Fr.new w hn
    refine hp (.ref p) S _ [p] B (fun _ z => z) ((Fr.weak ⟨fun a ha => fr2.st a (ha.imp id fun h => List.mem_append_right _ h), fr2.ext⟩) fun z => rfl) ⟨[p], .dKO upd_same rfl rfl .nil, rfl⟩ (hρ.frame (fun _ z => z) (fun a ha => fr2.st a (.inl ha)) fun a ha => fr2.st a (.inr (List.mem_append_left _ ha))) (w.new hn)
theorem s_sv (hx : CtxOk m c X W) {i : Nat} {x : Str} (h : visB c i x = true) : PE X (.Name x pos) (aE m X W (.sv i)) := by
  refine PE.imp (s_vo hx h) fun σ H Q ⟨S, O, ρ, B, hρ, w, hp⟩ => ?_
  refine ⟨S, O, ρ, B, hρ, w, ?_⟩
  simp only [E.go] at hp
  show Post _ _ _ _ _ _ _ _ _ _ (E.ow m.F (.v i) ρ)
  unfold E.ow
  simp only [E.go]
  cases e : ρ[i]? with
  | none => rw [e] at hp; exact hp.elim
  | some d =>
    cases d with
    | none => rw [e] at hp; exact hp.elim
    | some d =>
      rw [e] at hp
      simp only [R.bnd_ok]
      unfold own
      split
      · rename_i hc
        have hc : d.isC = true := hc.resolve_right (by simp)
        dsimp only at hp
        rw [D.clr_of d hc, set_self_get e] at hp
        exact fun b S' H' A' B' h1 h2 h3 h4 h5 => hp b S' H' A' B' h1 h2 ⟨A', h3, rfl⟩ h4 h5
      · exact fun b S' H' A' B' h1 h2 h3 h4 h5 => hp b S' H' A' B' h1 h2 ⟨A', h3, rfl⟩ h4 h5
theorem s_lr (hx : CtxOk m c X W) {e : E} {a : Expr} {p p2 q : Pos} (h1 : blB m.t c "list" = true) (h2 : blB m.t c "range" = true) (hs : notSt a = true) (ha : PE X a (aE m X W e)) : PE X (.Call (.Name "list" p) [.Call (.Name "range" p2) [a] [] q] [] pos) (aE m X W (.lr e)) := by
  obtain ⟨q1, q2, q3, q4⟩ := hx.bl h1
  obtain ⟨r1, r2, r3, r4⟩ := hx.bl h2
  have st : starEach [a] X.env = (false, eval a X.env) :: starEach [] X.env := star_cons hs [] X.env
  refine PE.imp (pe_listRg hx.calm q1 q4 (prg_1 r1 r4 ha st)) fun σ H Q ⟨S, O, ρ, B, hρ, w, hp⟩ => ?_
  simp only [E.go] at hp
  refine ⟨S, O, ρ, B, hρ, w, (Post.bnd0 (val := vE X.K m.ca) (pu2 := e.pu) hp).imp fun v H1 ⟨d, ρ1, S1, A1, B1, n⟩ => ?_⟩
  have po := n.post
  obtain ⟨A', r, _⟩ := n.v
  split at po
  · rename_i j ed
    rw [ed] at r
    obtain rfl := r.int_
    split at po
    · rename_i hj
      refine ⟨j, rfl, RgOk.of_le (by omega) hj.2 (by omega) hj.1, fun p hn => ?_⟩
      have w1 : Ow S1 H1 (B1 ++ O) := n.ow.drop1
      have fr2 : Fr true S1 (B1 ++ O) H1 (upd H1 p (.lst (rgV 0 j))) := Fr.new w1 hn
      have rr : ∀ l : List Nat, Reps X.K m.ca S1 (upd H1 p (.lst (rgV 0 j))) (l.map fun i => V.int (0 + (i : Nat))) (l.map fun (i : Nat) => D.int i) [] := fun l => by
        induction l with
        | nil => exact .nil
        | cons a l ih =>
          refine Reps.cons (A := []) (B := []) ?_ ih
          show Rep X.K m.ca S1 (upd H1 p (.lst (rgV 0 j))) (V.int (0 + (a : Nat))) (D.int (a : Nat)) []
          rw [Int.zero_add]
          exact .int _
      have rr2 : Reps X.K m.ca S1 (upd H1 p (.lst (rgV 0 j))) (rgV 0 j) ((List.range j.toNat).map fun (i : Nat) => D.int i) [] := by
        have := rr (List.range j.toNat)
        have e : rgV 0 j = (List.range j.toNat).map fun i => V.int (0 + (i : Nat)) := by unfold rgV; rw [Int.sub_zero]
        rw [← e] at this
        exact this
      refine po (.ref p) S1 _ [p] B1 n.sub ((n.fr.trans fr2 n.sub fun a ha => List.mem_append_right _ ha).weak (by intro z; cases z)) ⟨[p], .lstO upd_same rr2, rfl⟩ (n.env.frame (fun _ z => z) (fun a ha => fr2.st a (.inl ha)) fun a ha => fr2.st a (.inr (List.mem_append_left _ ha))) (w1.new hn)
    · exact po.elim
  · exact po.elim
/-! ### calls -/
section
variable (K : PySem.W.Frag) (ca : CA) (σ : L2.St) (S : Own) (H : Hp)
inductive vA : List Arg → List V → List Addr → Prop
  | nil : vA [] [] []
  | d {v d A as vs B} : Rep K ca S H v d A → vA as vs B → vA (.d d :: as) (v :: vs) (A ++ B)
  | io {i v as vs B} : σ[i]? = some (some v) → vA as vs B → vA (.io i :: as) (v :: vs) B
  | ln {i v as vs B} : σ[i]? = some (some v) → vA as vs B → vA (.ln i :: as) (v :: vs) B
end
def vAs (K : PySem.W.Frag) (ca : CA) (σ : L2.St) : Val (List Arg) (List V) := fun as vs S H A => vA K ca σ S H as vs A
theorem vA.frame {K : PySem.W.Frag} {ca : CA} {σ : L2.St} {S S' : Own} {H H' : Hp} {as : List Arg} {vs : List V} {A : List Addr} (h : vA K ca σ S H as vs A) (hs : ∀ a, S a → S' a) (hh : ∀ a, S a → H' a = H a) (hA : ∀ a ∈ A, H' a = H a) : vA K ca σ S' H' as vs A := by
  induction h with
  | nil => exact .nil
  | d r _ ih => exact .d (r.frame hs hh fun a ha => hA a (List.mem_append_left _ ha)) (ih fun a ha => hA a (List.mem_append_right _ ha))
  | io e _ ih => exact .io e (ih hA)
  | ln e _ ih => exact .ln e (ih hA)
abbrev aAs (m : Pm) (X : Cx) (W : WX) (es : Es) : TA := fun σ H Q => Ask X.K m.ca W σ (vAs X.K m.ca σ) false (fun ρ => es.args m.F ρ) H Q
def E.isA : E → Bool
  | .io _ => true
  | .ln _ => true
  | _ => false
theorem s_as_nil : PA X [] (aAs m X W .nil) :=
  PA.imp pa_nil fun σ H Q ⟨S, O, ρ, B, hρ, w, hp⟩ => hp [] S H [] B (fun _ z => z) Fr.refl .nil hρ (by simpa using w)
theorem s_as_d {e : E} {r : Es} {a : Expr} {l : List Expr} (h : e.isA = false) (hs : notSt a = true) (ha : PE X a (aO m X W e)) (hl : PA X l (aAs m X W r)) : PA X (a :: l) (aAs m X W (.cons e r)) :=
  PA.imp (pa_cons ha hl (star_cons hs l X.env)) fun σ H Q q => by
    have q : Ask X.K m.ca W σ (vAs X.K m.ca σ) false (fun ρ => (e.ow m.F ρ).bnd fun d ρ => (r.args m.F ρ).bnd fun ds ρ => .ok (.d d :: ds) ρ) H Q := Ask.eq q fun ρ => by
      unfold E.ow
      rw [R.bnd_assoc]
      cases e <;> first | (simp [E.isA] at h; done) | rfl
    obtain ⟨S, O, ρ, B, hρ, w, hp⟩ := q
    refine ⟨S, O, ρ, B, hρ, w, (Post.bnd0 (val := vO X.K m.ca) (pu2 := false) hp).imp fun v H1 ⟨d, ρ1, S1, A1, B1, n⟩ => ?_⟩
    refine Ask.imp (ask_next (val := vAs X.K m.ca σ) (f := fun ρ => r.args m.F ρ) n.env n.ow n.sub n.fr n.post) fun us H2 ⟨ds, ρ2, S2, A2, B2, n2⟩ => ?_
    have r1 : Rep X.K m.ca S1 H1 v d A1 := n.v
    have r2 : vA X.K m.ca σ S2 H2 ds us A2 := n2.v
    refine n2.post (v :: us) S2 H2 (A1 ++ A2) B2 (fun x z => n2.sub x (n.sub x z)) ((n.fr.trans n2.fr n.sub fun a ha => List.mem_append_right _ ha).weak (by intro z; cases z)) (.d (r1.frame n2.sub (fun a ha => n2.fr.st a (.inl ha)) fun a ha => n2.fr.st a (.inr (List.mem_append_left _ ha))) r2) n2.env ?_
    refine n2.ow.perm ?_
    rw [List.append_assoc, List.append_assoc, List.append_assoc]
    refine (List.perm_append_comm_assoc A1 A2 (B2 ++ O)).trans (List.Perm.append_left A2 ?_)
    exact List.perm_append_comm_assoc A1 B2 O
theorem join_some {ρ : Ev} {i : Nat} (h : ((ρ[i]?).join).isSome = true) : ∃ d, ρ[i]? = some (some d) := by
  cases e : ρ[i]? with
  | none => rw [e] at h; simp at h
  | some o =>
    cases o with
    | none => rw [e] at h; simp at h
    | some d => exact ⟨d, rfl⟩
/-- an argument that is a name's tree -/
theorem s_as_nm (hx : CtxOk m c X W) {i : Nat} {e : E} {k : Arg} {r : Es} {x : Str} {l : List Expr} (h : visB c i x = true) (hl : PA X l (aAs m X W r)) (hk : ∀ ρ, (Es.cons e r).args m.F ρ = if ((ρ[i]?).join).isSome = true then (r.args m.F ρ).bnd fun ds ρ => .ok (k :: ds) ρ else .bad)
    (hv : ∀ {σ : L2.St} {S : Own} {H : Hp} {v : V} {as : List Arg} {vs : List V} {A : List Addr}, σ[i]? = some (some v) → vA X.K m.ca σ S H as vs A → vA X.K m.ca σ S H (k :: as) (v :: vs) A) : PA X (.Name x pos :: l) (aAs m X W (.cons e r)) := by
  obtain ⟨h1, h2, h3, h4⟩ := hx.vis h
  refine PA.imp (pa_cons (pe_var h1 h2 h3 h4) hl (star_cons rfl l X.env)) fun σ H Q q => ?_
  obtain ⟨S, O, ρ, B, hρ, w, hp⟩ := Ask.eq q hk
  dsimp only at hp
  split at hp
  · rename_i hs
    obtain ⟨d, e1⟩ := join_some hs
    obtain ⟨v, A, e2, _, _⟩ := hρ.get e1
    refine ⟨v, e2, S, O, ρ, B, hρ, w, (Post.bnd0 (val := vAs X.K m.ca σ) (pu2 := false) hp).imp fun us H1 ⟨as, ρ1, S1, A1, B1, n⟩ => ?_⟩
    exact n.post (v :: us) S1 H1 A1 B1 n.sub n.fr (hv e2 n.v) n.env n.ow
  · exact hp.elim
theorem s_as_io (hx : CtxOk m c X W) {i : Nat} {r : Es} {x : Str} {l : List Expr} (h : visB c i x = true) (hl : PA X l (aAs m X W r)) : PA X (.Name x pos :: l) (aAs m X W (.cons (.io i) r)) :=
  s_as_nm hx h hl (fun ρ => rfl) fun e q => .io e q
theorem s_as_ln (hx : CtxOk m c X W) {i : Nat} {r : Es} {x : Str} {l : List Expr} (h : visB c i x = true) (hl : PA X l (aAs m X W r)) : PA X (.Name x pos :: l) (aAs m X W (.cons (.ln i) r)) :=
  s_as_nm hx h hl (fun ρ => rfl) fun e q => .ln e q
end

/-! ### the arguments' trees are handed over -/
section
variable {K : PySem.W.Frag} {ca : CA} {σ : L2.St} {S S' S2 : Own} {H H' : Hp} {ρ : Ev} {B : List Addr}
/-- what is lent: the addresses of each lent name's tree -/
inductive Lent (K : PySem.W.Frag) (ca : CA) (σ : L2.St) (S : Own) (H : Hp) (ρ : Ev) : List Arg → List Addr → Prop
  | nil : Lent K ca σ S H ρ [] []
  | d {d as L} : Lent K ca σ S H ρ as L → Lent K ca σ S H ρ (.d d :: as) L
  | io {i v as L} : σ[i]? = some (some v) → Lent K ca σ S H ρ as L → Lent K ca σ S H ρ (.io i :: as) L
  | ln {i v d as Li L} : σ[i]? = some (some v) → ρ[i]? = some (some d) → Rep K ca S H v d Li → Lent K ca σ S H ρ as L → Lent K ca σ S H ρ (.ln i :: as) (Li ++ L)
theorem offs_get : ∀ {as : List Arg} {i : Nat}, i ∉ as.flatMap Arg.slot → (offs ρ as)[i]? = ρ[i]?
  | [], _, _ => rfl
  | .d _ :: as, i, h => offs_get (as := as) (by simpa [Arg.slot] using h)
  | .io j :: as, i, h => by
    simp only [List.flatMap_cons, Arg.slot, List.singleton_append, List.mem_cons, not_or] at h
    show ((offs ρ as).set j none)[i]? = _
    rw [List.getElem?_set_ne (Ne.symm h.1)]
    exact offs_get h.2
  | .ln j :: as, i, h => by
    simp only [List.flatMap_cons, Arg.slot, List.singleton_append, List.mem_cons, not_or] at h
    show ((offs ρ as).set j none)[i]? = _
    rw [List.getElem?_set_ne (Ne.symm h.1)]
    exact offs_get h.2
theorem offs_length : ∀ {as : List Arg}, (offs ρ as).length = ρ.length
  | [] => rfl
  | .d _ :: as => offs_length (as := as)
  | .io j :: as => by show ((offs ρ as).set j none).length = _; rw [List.length_set]; exact offs_length
  | .ln j :: as => by show ((offs ρ as).set j none).length = _; rw [List.length_set]; exact offs_length
theorem perm_mid {α : Type} (a b l r s : List α) (h : (l ++ (r ++ s)).Perm (a ++ b)) (x : List α) : (l ++ ((x ++ r) ++ s)).Perm ((x ++ a) ++ b) := by
  rw [List.append_assoc, List.append_assoc]
  exact (List.perm_append_comm_assoc l x (r ++ s)).trans (h.append_left x)
theorem split_args : ∀ {as : List Arg} {vs : List V} {A : List Addr}, vA K ca σ S H as vs A → ∀ {ds : List D}, argsD ρ as = some ds → (as.flatMap Arg.slot).Nodup → RepE K ca S H σ ρ B →
    ∃ L A1 B0, Reps K ca (fun a => S a ∨ a ∈ L) H vs ds A1 ∧ RepE K ca S H σ (offs ρ as) B0 ∧ (L ++ (A1 ++ B0)).Perm (A ++ B) ∧ Lent K ca σ S H ρ as L
  | _, _, _, .nil, ds, e, _, hρ => by
    cases e
    exact ⟨[], [], B, .nil, hρ, by simp, .nil⟩
  | _, _, _, .d (d := d) (as := as) (A := A) (B := A2) r h, ds, e, nd, hρ => by
    simp only [argsD, argD] at e
    cases e1 : argsD ρ as with
    | none => rw [e1] at e; cases e
    | some l =>
      rw [e1] at e
      cases e
      obtain ⟨L, A1, B0, q1, q2, q3, q4⟩ := split_args h e1 (by simpa [Arg.slot] using nd) hρ
      exact ⟨L, A ++ A1, B0, .cons (r.frame (fun _ z => .inl z) (fun _ _ => rfl) fun _ _ => rfl) q1, q2, perm_mid A2 B L A1 B0 q3 A, .d q4⟩
  | _, _, _, .io (i := i) (v := v) (as := as) ev h, ds, e, nd, hρ => by
    simp only [argsD, argD] at e
    have nd' := List.nodup_cons.mp (show (i :: as.flatMap Arg.slot).Nodup from by simpa [Arg.slot] using nd)
    cases e0 : (ρ[i]?).join with
    | none => rw [e0] at e; cases e
    | some d =>
      rw [e0] at e
      cases e1 : argsD ρ as with
      | none => rw [e1] at e; cases e
      | some l =>
        rw [e1] at e
        cases e
        obtain ⟨L, A1, B0, q1, q2, q3, q4⟩ := split_args h e1 nd'.2 hρ
        obtain ⟨d', e2⟩ := join_some (by rw [e0]; rfl)
        obtain rfl : d' = d := by rw [e2] at e0; simpa using e0
        obtain ⟨B', k1, k2, k3⟩ := q2.off i
        obtain ⟨v', Ai, k4, k5, k6⟩ := k3 d' (by rw [offs_get nd'.1]; exact e2)
        obtain rfl : v' = v := by rw [ev] at k4; simpa using k4.symm
        refine ⟨L, Ai ++ A1, B', .cons (k5.frame (fun _ z => .inl z) (fun _ _ => rfl) fun _ _ => rfl) q1, k1, ?_, .io ev q4⟩
        refine List.Perm.trans ?_ q3
        refine List.Perm.append_left L ?_
        rw [List.append_assoc]
        refine (List.perm_append_comm_assoc Ai A1 B').trans (k6.append_left A1)
  | _, _, _, .ln (i := i) (v := v) (as := as) ev h, ds, e, nd, hρ => by
    simp only [argsD, argD] at e
    have nd' := List.nodup_cons.mp (show (i :: as.flatMap Arg.slot).Nodup from by simpa [Arg.slot] using nd)
    cases e0 : (ρ[i]?).join with
    | none => rw [e0] at e; cases e
    | some d =>
      rw [e0] at e
      cases e1 : argsD ρ as with
      | none => rw [e1] at e; cases e
      | some l =>
        rw [e1] at e
        cases e
        obtain ⟨L, A1, B0, q1, q2, q3, q4⟩ := split_args h e1 nd'.2 hρ
        obtain ⟨d', e2⟩ := join_some (by rw [e0]; rfl)
        obtain rfl : d' = d := by rw [e2] at e0; simpa using e0
        obtain ⟨B', k1, k2, k3⟩ := q2.off i
        obtain ⟨v', Ai, k4, k5, k6⟩ := k3 d' (by rw [offs_get nd'.1]; exact e2)
        obtain rfl : v' = v := by rw [ev] at k4; simpa using k4.symm
        have sh : Rep K ca (fun a => S a ∨ a ∈ Ai ++ L) H v' d'.clr [] := k5.share (fun _ z => .inl z) fun a ha => .inr (List.mem_append_left _ ha)
        have q1' : Reps K ca (fun a => S a ∨ a ∈ Ai ++ L) H _ _ A1 := q1.frame (fun a z => z.imp id fun z => List.mem_append_right _ z) (fun _ _ => rfl) fun _ _ => rfl
        refine ⟨Ai ++ L, A1, B', ?_, k1, ?_, .ln ev e2 k5 q4⟩
        · exact Reps.cons (A := []) sh q1'
        · refine List.Perm.trans ?_ q3
          rw [List.append_assoc]
          refine (List.perm_append_comm_assoc Ai L (A1 ++ B')).trans (List.Perm.append_left L ?_)
          exact (List.perm_append_comm_assoc Ai A1 B').trans (k6.append_left A1)
mutual
/-- nothing common but tuples is in it -/
theorem Rep.noSh_frame (hL : ∀ a vs, S' a → H' a = some (.tup vs) → S2 a) : ∀ {v d A}, Rep K ca S' H' v d A → d.noSh = true → Rep K ca S2 H' v d A
  | _, _, _, .non, _ => .non
  | _, _, _, .bl b, _ => .bl b
  | _, _, _, .int b, _ => .int b
  | _, _, _, .str b, _ => .str b
  | _, _, _, .scrS .., h => by simp [D.noSh] at h
  | _, _, _, .scrW .., h => by simp [D.noSh] at h
  | _, _, _, .lstS .., h => by simp [D.noSh] at h
  | _, _, _, .lstO r q, h => .lstO r (Reps.noSh_frame hL q (by simpa [D.noSh] using h))
  | _, _, _, .tupS s r q, h => .tupS (hL _ _ s r) r (Reps.noSh_frame hL q (by simpa [D.noSh] using h))
  | _, _, _, .tupW r q, h => .tupW r (Reps.noSh_frame hL q (by simpa [D.noSh] using h))
  | _, _, _, .tupO r q, h => .tupO r (Reps.noSh_frame hL q (by simpa [D.noSh] using h))
  | _, _, _, .dKS .., h => by simp [D.noSh] at h
  | _, _, _, .dKO r e1 e2 q, h => .dKO r e1 e2 (Reps.noSh_frame hL q (by simpa [D.noSh] using h))
  | _, _, _, .dTS .., h => by simp [D.noSh] at h
  | _, _, _, .dTO r e1 e2 q, h => .dTO r e1 e2 (Reps.noSh_frame hL q (by simpa [D.noSh] using h))
  | _, _, _, .objS .., h => by simp [D.noSh] at h
  | _, _, _, .objO r e1 e2 q, h => .objO r e1 e2 (Reps.noSh_frame hL q (by simpa [D.noSh] using h))
theorem Reps.noSh_frame (hL : ∀ a vs, S' a → H' a = some (.tup vs) → S2 a) : ∀ {v d A}, Reps K ca S' H' v d A → noShs d = true → Reps K ca S2 H' v d A
  | _, _, _, .nil, _ => .nil
  | _, _, _, .cons p q, h => by
    simp only [noShs, Bool.and_eq_true] at h
    exact .cons (Rep.noSh_frame hL p h.1) (Reps.noSh_frame hL q h.2)
end
theorem backF_get {ρ0 : Ev} {ok : Bool} : ∀ {as : List Arg} {fin : List (Option D)} {i : Nat}, i ∉ as.flatMap Arg.slot → (backF ρ0 ρ ok as fin)[i]? = ρ0[i]?
  | [], _, _, _ => by unfold backF; rfl
  | .d _ :: as, [], _, _ => rfl
  | .io _ :: as, [], _, _ => rfl
  | .ln _ :: as, [], _, _ => rfl
  | .d _ :: as, f :: fs, i, h => backF_get (as := as) (fin := fs) (by simpa [Arg.slot] using h)
  | .io j :: as, f :: fs, i, h => by
    simp only [List.flatMap_cons, Arg.slot, List.singleton_append, List.mem_cons, not_or] at h
    show ((backF ρ0 ρ ok as fs).set j f)[i]? = _
    rw [List.getElem?_set_ne (Ne.symm h.1)]
    exact backF_get h.2
  | .ln j :: as, f :: fs, i, h => by
    simp only [List.flatMap_cons, Arg.slot, List.singleton_append, List.mem_cons, not_or] at h
    show ((backF ρ0 ρ ok as fs).set j _)[i]? = _
    rw [List.getElem?_set_ne (Ne.symm h.1)]
    exact backF_get h.2
/-- behind the call the names have their trees again -/
theorem restore {ok : Bool} {ρ0 : Ev} {B0 : List Addr} (h0 : RepE K ca S2 H' σ ρ0 B0) :
    ∀ {as : List Arg} {L : List Addr}, Lent K ca σ S H ρ as L → ∀ {vs : List V} {fin : List (Option D)} {Bf A : List Addr}, vA K ca σ S H as vs A → RepE K ca S' H' (vs.map some) fin Bf → (as.flatMap Arg.slot).Nodup → (∀ i ∈ as.flatMap Arg.slot, ρ0[i]? = some none) →
      (∀ a ∈ L, H' a = H a) → (∀ a, S a → H' a = H a) → (∀ a, S a → S2 a) → (ok = false → (∀ a ∈ L, S2 a) ∧ ∀ a, S' a → S2 a) → (ok = true → finNoSh as fin = true ∧ ∀ a vs, S' a → H' a = some (.tup vs) → S2 a) →
      ∃ B' Bg, RepE K ca S2 H' σ (backF ρ0 ρ ok as fin) B' ∧ List.Sublist Bg Bf ∧ B'.Perm ((if ok = true then L else []) ++ (Bg ++ B0)) := by
  intro as L hl
  induction hl with
  | nil =>
    intro vs fin Bf A hv hf nd hn hL hS hss h1 h2
    refine ⟨B0, [], by unfold backF; exact h0, List.nil_sublist _, by cases ok <;> simp⟩
  | @d dd as L hl ih =>
    intro vs fin Bf A hv hf nd hn hL hS hss h1 h2
    cases hv with
    | @d v _ A1 as us A2 r hv =>
      cases hf with
      | skip hf =>
        exact ih hv hf (by simpa [Arg.slot] using nd) (fun i hi => hn i (by simpa [Arg.slot] using hi)) hL hS hss h1 (fun z => by simpa [finNoSh] using h2 z)
      | cons p hf =>
        obtain ⟨B', Bg, k1, k2, k3⟩ := ih hv hf (by simpa [Arg.slot] using nd) (fun i hi => hn i (by simpa [Arg.slot] using hi)) hL hS hss h1 (fun z => by simpa [finNoSh] using h2 z)
        exact ⟨B', Bg, k1, k2.trans (List.sublist_append_right _ _), k3⟩
  | @io i w as L ew hl ih =>
    intro vs fin Bf A hv hf nd hn hL hS hss h1 h2
    have nd' := List.nodup_cons.mp (show (i :: as.flatMap Arg.slot).Nodup from by simpa [Arg.slot] using nd)
    have hn' : ∀ j ∈ as.flatMap Arg.slot, ρ0[j]? = some none := fun j hj => hn j (by rw [List.flatMap_cons]; exact List.mem_append_right _ hj)
    have hi : ρ0[i]? = some none := hn i (by simp [Arg.slot])
    cases hv with
    | @io _ v as us _ ev hv =>
      cases hf with
      | @skip x s fs _ hf =>
        obtain ⟨B', Bg, k1, k2, k3⟩ := ih hv hf nd'.2 hn' hL hS hss h1 (fun z => by simpa [finNoSh] using h2 z)
        refine ⟨B', Bg, ?_, k2, k3⟩
        show RepE K ca S2 H' σ ((backF ρ0 ρ ok as fs).set i none) B'
        have e : (backF ρ0 ρ ok as fs)[i]? = some none := by rw [backF_get nd'.1]; exact hi
        rw [set_self_get e]
        exact k1
      | @cons v' dd s fs Ai Bf p hf =>
        obtain ⟨B', Bg, k1, k2, k3⟩ := ih hv hf nd'.2 hn' hL hS hss h1 (fun z => by
          have := h2 z
          simp only [finNoSh, Bool.and_eq_true] at this
          exact ⟨this.1.2, this.2⟩)
        have e : (backF ρ0 ρ ok as fs)[i]? = some none := by rw [backF_get nd'.1]; exact hi
        have p2 : Rep K ca S2 H' v dd Ai := by
          cases hok : ok with
          | true =>
            have := h2 hok
            simp only [finNoSh, Bool.and_eq_true] at this
            exact p.noSh_frame this.2 this.1.1
          | false => exact p.frame (h1 hok).2 (fun _ _ => rfl) fun _ _ => rfl
        obtain ⟨B2, k4, k5⟩ := k1.re i ev e p2
        refine ⟨B2, Ai ++ Bg, k4, (List.Sublist.refl _).append k2, k5.trans ((k3.append_left Ai).trans ?_)⟩
        rw [List.append_assoc]
        exact List.perm_append_comm_assoc Ai _ _
  | @ln i w dd as Li L ew ed r hl ih =>
    intro vs fin Bf A hv hf nd hn hL hS hss h1 h2
    have nd' := List.nodup_cons.mp (show (i :: as.flatMap Arg.slot).Nodup from by simpa [Arg.slot] using nd)
    have hn' : ∀ j ∈ as.flatMap Arg.slot, ρ0[j]? = some none := fun j hj => hn j (by rw [List.flatMap_cons]; exact List.mem_append_right _ hj)
    have hi : ρ0[i]? = some none := hn i (by simp [Arg.slot])
    cases hv with
    | @ln _ v as us _ ev hv =>
      obtain rfl : w = v := by rw [ew] at ev; simpa using ev
      obtain ⟨f, fs, Bf', rfl, hf', hsub⟩ : ∃ f fs Bf', fin = f :: fs ∧ RepE K ca S' H' (us.map some) fs Bf' ∧ List.Sublist Bf' Bf := by
        cases hf with
        | @skip x s fs _ hf => exact ⟨_, _, _, rfl, hf, List.Sublist.refl _⟩
        | @cons v' dd s fs Ai Bf p hf => exact ⟨_, _, _, rfl, hf, List.sublist_append_right _ _⟩
      obtain ⟨B', Bg, k1, k2, k3⟩ := ih hv hf' nd'.2 hn' (fun a ha => hL a (List.mem_append_right _ ha)) hS hss (fun z => ⟨fun a ha => (h1 z).1 a (List.mem_append_right _ ha), (h1 z).2⟩) (fun z => by simpa [finNoSh] using h2 z)
      have e : (backF ρ0 ρ ok as fs)[i]? = some none := by rw [backF_get nd'.1]; exact hi
      have r2 : Rep K ca S2 H' w dd Li := r.frame hss hS fun a ha => hL a (List.mem_append_left _ ha)
      cases hok : ok with
      | true =>
        subst hok
        obtain ⟨B2, k4, k5⟩ := k1.re i ew e r2
        refine ⟨B2, Bg, ?_, k2.trans hsub, k5.trans ((k3.append_left Li).trans ?_)⟩
        · show RepE K ca S2 H' σ ((backF ρ0 ρ true as fs).set i (if true = true then (ρ[i]?).join else _)) B2
          rw [if_pos rfl, ed]
          exact k4
        · simp [List.append_assoc]
      | false =>
        subst hok
        have r3 : Rep K ca S2 H' w dd.clr [] := r2.share (fun _ z => z) fun a ha => (h1 rfl).1 a (List.mem_append_left _ ha)
        obtain ⟨B2, k4, k5⟩ := k1.re i ew e r3
        refine ⟨B2, Bg, ?_, k2.trans hsub, k5.trans (k3.append_left [])⟩
        show RepE K ca S2 H' σ ((backF ρ0 ρ false as fs).set i (if false = true then _ else ((ρ[i]?).join).map D.clr)) B2
        rw [if_neg (by decide), ed]
        exact k4
end
end Hm
end
section
set_option Elab.async false
set_option linter.all false
set_option maxRecDepth 100000
/-! A call, by its arguments. -/
namespace Hm
open PySem PySem.Spec PyProof.Rows L2
def Es.len : Es → Nat
  | .nil => 0
  | .cons _ r => r.len + 1
def R.isOk {α : Type} (r : R α) (a : α) (ρ : Ev) : Prop := r = .ok a ρ
theorem R.bnd_isOk {α β : Type} {r : R α} {k : α → Ev → R β} {b : β} {ρ : Ev} (h : r.bnd k = .ok b ρ) : ∃ a ρ1, r = .ok a ρ1 ∧ k a ρ1 = .ok b ρ := by
  cases r with
  | ok a ρ1 => exact ⟨a, ρ1, rfl, h⟩
  | ex x ρ1 => cases h
  | bad => cases h
theorem args_len {F : Orc} : ∀ {es : Es} {ρ ρ' : Ev} {as : List Arg}, es.args F ρ = .ok as ρ' → as.length = es.len
  | .nil, ρ, ρ', as, h => by
    simp only [Es.args] at h
    cases h; rfl
  | .cons e r, ρ, ρ', as, h => by
    have key : ∀ {ρ2 : Ev} {k : Arg}, ((r.args F ρ2).bnd fun ds ρ => R.ok (k :: ds) ρ) = .ok as ρ' → as.length = (Es.cons e r).len := fun h => by
      obtain ⟨ds, ρ1, h1, h2⟩ := R.bnd_isOk h
      cases h2
      simp [Es.len, args_len h1]
    unfold Es.args at h
    split at h
    · split at h
      · exact key h
      · cases h
    · split at h
      · exact key h
      · cases h
    · obtain ⟨d, ρ1, h1, h2⟩ := R.bnd_isOk h
      obtain ⟨d2, ρ2, h3, h4⟩ := R.bnd_isOk h2
      exact key h4
theorem vA.length {K : PySem.W.Frag} {ca : CA} {σ : L2.St} {S : Own} {H : Hp} {as : List Arg} {vs : List V} {A : List Addr} (h : vA K ca σ S H as vs A) : as.length = vs.length := by
  induction h with
  | nil => rfl
  | d _ _ ih => simp [ih]
  | io _ _ ih => simp [ih]
  | ln _ _ ih => simp [ih]
theorem lent_len {K : PySem.W.Frag} {ca : CA} {σ : L2.St} {S : Own} {H : Hp} {ρ : Ev} {as : List Arg} {L : List Addr} (h : Lent K ca σ S H ρ as L) (hr : lendable ρ as = true) : ∀ a ∈ L, (∃ vs, H a = some (.lst vs)) ∨ ∃ kvs, H a = some (.dK kvs) := by
  induction h with
  | nil => exact fun _ h => nomatch h
  | d _ ih => exact ih (by simpa [lendable] using hr)
  | io _ _ ih => exact ih (by simpa [lendable] using hr)
  | @ln i v d as Li L ev ed r hl ih =>
    simp only [lendable, List.all_cons, ed, Option.join_some, Bool.and_eq_true, Bool.or_eq_true] at hr
    intro a ha
    rcases List.mem_append.mp ha with ha | ha
    · rcases hr.1 with h1 | h1
      · cases r with
        | lstO h q =>
          have : isCs _ = true := h1
          rw [q.nil_of this] at ha
          have e := List.mem_singleton.mp ha
          exact .inl ⟨_, by rw [e]; exact h⟩
        | dKO h e1 e2 q =>
          have : isCs _ = true := h1
          rw [q.nil_of this] at ha
          have e := List.mem_singleton.mp ha
          exact .inr ⟨_, by rw [e]; exact h⟩
        | _ => simp [D.rootOnly] at h1
      · rw [r.nil_of h1] at ha
        exact nomatch ha
    · exact ih (by simpa [lendable] using hr.2) a ha
theorem lent_none {K : PySem.W.Frag} {ca : CA} {σ : L2.St} {S : Own} {H : Hp} {ρ : Ev} {as : List Arg} {L : List Addr} (h : Lent K ca σ S H ρ as L) (hr : hasLn as = false) : L = [] := by
  induction h with
  | nil => rfl
  | d _ ih => exact ih (by simpa [hasLn] using hr)
  | io _ _ ih => exact ih (by simpa [hasLn] using hr)
  | ln _ _ _ _ ih => simp [hasLn] at hr
theorem offs_none {ρ : Ev} : ∀ {as : List Arg}, (as.flatMap Arg.slot).Nodup → (∀ i ∈ as.flatMap Arg.slot, i < ρ.length) → ∀ i ∈ as.flatMap Arg.slot, (offs ρ as)[i]? = some none
  | [], _, _, i, hi => by simp at hi
  | .d _ :: as, nd, hl, i, hi => offs_none (as := as) (by simpa [Arg.slot] using nd) (fun j hj => hl j (by rw [List.flatMap_cons]; exact List.mem_append_right _ hj)) i (by simpa [Arg.slot] using hi)
  | .io j :: as, nd, hl, i, hi => by
    have nd' := List.nodup_cons.mp (show (j :: as.flatMap Arg.slot).Nodup from by simpa [Arg.slot] using nd)
    have hi' : i ∈ j :: as.flatMap Arg.slot := by simpa [Arg.slot] using hi
    show ((offs ρ as).set j none)[i]? = _
    rcases List.mem_cons.mp hi' with e | hi'
    · subst e
      rw [List.getElem?_set_self (by rw [offs_length]; exact hl i hi)]
    · rw [List.getElem?_set_ne (show j ≠ i from fun e => nd'.1 (e ▸ hi'))]
      exact offs_none nd'.2 (fun j hj => hl j (by rw [List.flatMap_cons]; exact List.mem_append_right _ hj)) i hi'
  | .ln j :: as, nd, hl, i, hi => by
    have nd' := List.nodup_cons.mp (show (j :: as.flatMap Arg.slot).Nodup from by simpa [Arg.slot] using nd)
    have hi' : i ∈ j :: as.flatMap Arg.slot := by simpa [Arg.slot] using hi
    show ((offs ρ as).set j none)[i]? = _
    rcases List.mem_cons.mp hi' with e | hi'
    · subst e
      rw [List.getElem?_set_self (by rw [offs_length]; exact hl i hi)]
    · rw [List.getElem?_set_ne (show j ≠ i from fun e => nd'.1 (e ▸ hi'))]
      exact offs_none nd'.2 (fun j hj => hl j (by rw [List.flatMap_cons]; exact List.mem_append_right _ hj)) i hi'
theorem vA_slot {K : PySem.W.Frag} {ca : CA} {σ : L2.St} {S : Own} {H : Hp} {as : List Arg} {vs : List V} {A : List Addr} (h : vA K ca σ S H as vs A) : ∀ i ∈ as.flatMap Arg.slot, i < σ.length := by
  induction h with
  | nil => exact fun _ h => by simp at h
  | d _ _ ih => exact fun i hi => ih i (by simpa [Arg.slot] using hi)
  | io e _ ih =>
    intro i hi
    rw [List.flatMap_cons] at hi
    rcases List.mem_append.mp hi with hi | hi
    · rw [List.mem_singleton.mp hi]
      exact (List.getElem?_eq_some_iff.mp e).1
    · exact ih i hi
  | ln e _ ih =>
    intro i hi
    rw [List.flatMap_cons] at hi
    rcases List.mem_append.mp hi with hi | hi
    · rw [List.mem_singleton.mp hi]
      exact (List.getElem?_eq_some_iff.mp e).1
    · exact ih i hi
/-- all are plain arguments -/
def noSts : List Expr → Bool
  | [] => true
  | e :: r => notSt e && noSts r
theorem noSts_any {pos : Pos} {env : Env} : ∀ {l : List Expr}, noSts l = true → (backTo pos (starEach l env)).any (·.1) = false
  | [], _ => rfl
  | e :: r, h => by
    simp only [noSts, Bool.and_eq_true] at h
    rw [star_cons h.1]
    show (false || (backTo pos (starEach r env)).any (·.1)) = false
    rw [noSts_any h.2]; rfl
section
variable {m : Pm} {X : Cx} {W : WX} {c : Ctx} {pos : Pos}
theorem call_of {es : Es} {f n : Nat} {σ : L2.St} {H : Hp} {Q : V → Hp → Prop} (hlen : es.len = n)
    (h : aE m X W (.call f es) σ H Q) : aAs m X W es σ H fun vs H1 => spD X.K m.ca n (m.F f) vs H1 Q (WE W σ) := by
  obtain ⟨S, O, ρ, B, hρ, w, hp⟩ := h
  simp only [E.go] at hp
  refine ⟨S, O, ρ, B, hρ, w, (Post.bnd0 (val := vAs X.K m.ca σ) (pu2 := false) hp).imp fun vs H1 ⟨as, ρ1, S1, A1, B1, nx⟩ => ?_⟩
  have hv : vA X.K m.ca σ S1 H1 as vs A1 := nx.v
  refine ⟨by rw [← hv.length, args_len nx.e]; exact hlen, ?_⟩
  have po := nx.post
  unfold callR at po
  split at po
  · exact po.elim
  · rename_i ds eds
    split at po
    · rename_i nd
      obtain ⟨L, A2, B0, q1, q2, q3, q4⟩ := split_args hv eds nd nx.env
      have w1 : Ow S1 H1 (L ++ (A2 ++ (B0 ++ O))) := by
        have : Ow S1 H1 ((L ++ (A2 ++ B0)) ++ O) := nx.ow.perm (q3.append_right O)
        simpa [List.append_assoc] using this
      have w2 := w1.share
      refine ⟨fun a => S1 a ∨ a ∈ L, B0 ++ O, ds, A2, q1, w2, ?_⟩
      have hl : ∀ i ∈ as.flatMap Arg.slot, i < ρ1.length := fun i hi => by rw [← nx.env.length]; exact vA_slot hv i hi
      have hn := offs_none nd hl
      cases er : m.F f ds with
      | bad => rw [er] at po; exact po.elim
      | ex x =>
        rw [er] at po
        dsimp only at po
        split at po
        · exact po.elim
        · rename_i hln
          have hLn : L = [] := lent_none q4 (by simpa using hln)
          subst hLn
          intro cls dd S' H' A' h1 h2 h3 h4
          refine po cls dd S' H' A' B0 (fun x z => h1 x (.inl (nx.sub x z))) ((nx.fr.trans h2 (fun x z => .inl (nx.sub x z)) fun a ha => List.mem_append_right _ ha).weak (by intro z; cases z)) h3 ?_ ?_
          · exact q2.frame (fun a z => h1 a (.inl z)) (fun a z => h2.st a (.inl (.inl z))) fun a ha => h2.st a (.inr (List.mem_append_left _ ha))
          · rw [List.append_assoc]; exact h4
      | ok d fin =>
        rw [er] at po
        dsimp only at po
        split at po
        · rename_i hfl
          intro v S' H' A' Bf h1 h2 h3 h4 h5
          -- what the call has left alone
          have fL : ∀ a ∈ L, H' a = H1 a := fun a ha => h2.st a (.inl (.inr ha))
          have fS : ∀ a, S1 a → H' a = H1 a := fun a ha => h2.st a (.inl (.inl ha))
          have fB : ∀ a ∈ B0 ++ O, H' a = H1 a := fun a ha => h2.st a (.inr ha)
          have fr : Fr false S O H H' := (nx.fr.trans h2 (fun x z => .inl (nx.sub x z)) fun a ha => List.mem_append_right _ ha).weak (by intro z; cases z)
          cases hok : d.noSh && (finNoSh as fin && lendable ρ1 as) with
          | false =>
            rw [hok] at po
            have e0 : RepE X.K m.ca S' H' σ (offs ρ1 as) B0 := q2.frame (fun a z => h1 a (.inl z)) fS fun a ha => fB a (List.mem_append_left _ ha)
            obtain ⟨B', Bg, k1, k2, k3⟩ := restore (ok := false) (S' := S') e0 q4 hv h4 nd hn fL fS (fun a z => h1 a (.inl z)) (fun _ => ⟨fun a z => h1 a (.inr z), fun _ z => z⟩) (fun z => by cases z)
            refine po v S' H' A' B' (fun x z => h1 x (.inl (nx.sub x z))) fr ⟨A', h3, rfl⟩ k1 ?_
            have w3 : Ow S' H' (A' ++ (Bg ++ (B0 ++ O))) := by
              have : Ow S' H' (A' ++ (Bf ++ (B0 ++ O))) := by simpa [List.append_assoc] using h5
              exact this.sub ((List.Sublist.refl _).append (k2.append (List.Sublist.refl _)))
            refine w3.perm ?_
            rw [List.append_assoc]
            refine List.Perm.append_left A' ?_
            have := k3.append_right O
            simpa [List.append_assoc] using this
          | true =>
            rw [hok] at po
            simp only [Bool.and_eq_true] at hok
            obtain ⟨ok1, ok2, ok3⟩ := hok
            have hmut := lent_len q4 ok3
            -- the lent ones are owned again
            have dis : ∀ a ∈ L, ¬ S1 a := fun a ha => (w1.own a (List.mem_append_left _ ha)).1
            have s2 : ∀ a, S1 a → (fun a => S' a ∧ a ∉ L) a := fun a z => ⟨h1 a (.inl z), fun ha => dis a ha z⟩
            have hT : ∀ a us, S' a → H' a = some (.tup us) → (fun a => S' a ∧ a ∉ L) a := fun a us z e => ⟨z, fun ha => by
              rcases hmut a ha with ⟨us', e'⟩ | ⟨kvs, e'⟩
              · rw [fL a ha, e'] at e; cases e
              · rw [fL a ha, e'] at e; cases e⟩
            have e0 : RepE X.K m.ca (fun a => S' a ∧ a ∉ L) H' σ (offs ρ1 as) B0 := q2.frame s2 fS fun a ha => fB a (List.mem_append_left _ ha)
            obtain ⟨B', Bg, k1, k2, k3⟩ := restore (ok := true) (S' := S') e0 q4 hv h4 nd hn fL fS s2 (fun z => by cases z) (fun _ => ⟨ok2, hT⟩)
            have h3' : Rep X.K m.ca (fun a => S' a ∧ a ∉ L) H' v d A' := h3.noSh_frame hT ok1
            refine po v (fun a => S' a ∧ a ∉ L) H' A' B' (fun x z => s2 x (nx.sub x z)) fr ⟨A', h3', rfl⟩ k1 ?_
            have w3 : Ow S' H' (A' ++ (Bg ++ (B0 ++ O))) := by
              have : Ow S' H' (A' ++ (Bf ++ (B0 ++ O))) := by simpa [List.append_assoc] using h5
              exact this.sub ((List.Sublist.refl _).append (k2.append (List.Sublist.refl _)))
            have w4 : Ow (fun a => S' a ∧ a ∉ L) H' (L ++ (A' ++ (Bg ++ (B0 ++ O)))) := by
              have ndL : L.Nodup := (List.nodup_append.mp w1.nd).1
              refine ⟨List.nodup_append.mpr ⟨ndL, w3.nd, fun a ha b hb e => ?_⟩, fun a ha => ?_, fun a ha => w3.com a ha.1⟩
              · subst e
                exact (w3.own a hb).1 (h1 a (.inr ha))
              · rcases List.mem_append.mp ha with ha | ha
                · refine ⟨fun z => z.2 ha, ?_⟩
                  obtain ⟨o, e⟩ := (w1.own a (List.mem_append_left _ ha)).2
                  exact ⟨o, (fL a ha).trans e⟩
                · exact ⟨fun z => (w3.own a ha).1 z.1, (w3.own a ha).2⟩
            refine w4.perm ?_
            rw [List.append_assoc]
            have := (k3.append_right O).append_left A'
            rw [if_pos rfl] at this
            refine this.trans ?_
            simp only [List.append_assoc]
            exact List.perm_append_comm_assoc A' L _
        · exact po.elim
    · exact po.elim
theorem s_call (hx : CtxOk m c X W) {f : Nat} {x : Str} {n : Nat} {es : Es} {a : Expr} {l : List Expr} {p : Pos} (hg : glB c x = true) (hf : m.t.fs[f]? = some (x, n)) (hlen : es.len = n) (hs : notSt a = true) (hss : noSts l = true) (ha : PA X (a :: l) (aAs m X W es)) :
    PE X (.Call (.Name x p) (a :: l) [] pos) (aE m X W (.call f es)) := by
  obtain ⟨fa, fd, ps, F, h1, h2, h3⟩ := hx.ok.fs f x n hf
  obtain ⟨g1, g2, _⟩ := hx.gl hg
  refine PE.imp (pe_callS F hx.room g1 h1 h2 h3 (passAt hx.tk) ha g2 (star_cons hs l X.env) (noSts_any hss)) fun σ H Q q => call_of hlen q
end
end Hm
end
section
set_option Elab.async false
set_option linter.all false
set_option maxRecDepth 100000
/-! What a loop walks: one item after another. -/
namespace Hm
open PySem PySem.Spec PyProof.Rows L2
/-- an item as it comes: one value, or a tuple of the targets' values -/
def Itm (K : PySem.W.Frag) (ca : CA) (tup : Bool) (S : Own) (H : Hp) (x : V) (ds : List D) (A : List Addr) : Prop :=
  if tup = true then ∃ a ys, x = .ref a ∧ SqT K H a ys ∧ Reps K ca S H ys ds A else ∃ d, ds = [d] ∧ Rep K ca S H x d A
/-- the items come one by one; Fd: how things stand ahead of turn i, A its own addresses -/
structure Feed (K : PySem.W.Frag) (ca : CA) (J : L2.It) (its : List (List D)) (tup : Bool) (Fd : Nat → Own → Hp → List Addr → Prop) : Prop where
  stop : ∀ S H A, Fd its.length S H A → J.stop its.length H
  go : ∀ i ds S H A L, its[i]? = some ds → Fd i S H A → Ow S H (A ++ L) → J.go i H ∧ ∀ x H', J.yld i H x H' → ∃ S' A1 A2, (∀ a, S a → S' a) ∧ (∀ a o, H a = some o → H' a = some o) ∧ Itm K ca tup S' H' x ds A1 ∧ Fd (i + 1) S' H' A2 ∧ Ow S' H' (A1 ++ (A2 ++ L))
  fr : ∀ i S H A S' H', Fd i S H A → (∀ a, S a → S' a) → (∀ a, S a → H' a = H a) → (∀ a ∈ A, H' a = H a) → Fd i S' H' A
def vF (K : PySem.W.Frag) (ca : CA) (tup : Bool) : Val (List (List D)) L2.It := fun its J S H A => ∃ Fd, Feed K ca J its tup Fd ∧ Fd 0 S H A
abbrev aIt (m : Pm) (X : Cx) (W : WX) (tup : Bool) (it : It) : TI := fun σ H R => Ask X.K m.ca W σ (vF X.K m.ca tup) false (fun ρ => it.go m.F ρ) H R
section
variable {K : PySem.W.Frag} {ca : CA} {S S' : Own} {H H' : Hp} {σ : L2.St} {ρ : Ev} {B : List Addr}
/-- the list or tuple at a, its root in A or common, items of the trees ds -/
theorem drop_get {vs : List V} {ds : List D} {A : List Addr} {i : Nat} {d : D} (r : Reps K ca S H (vs.drop i) (ds.drop i) A) (e : ds[i]? = some d) : ∃ v A1 A2, vs[i]? = some v ∧ Rep K ca S H v d A1 ∧ Reps K ca S H (vs.drop (i + 1)) (ds.drop (i + 1)) A2 ∧ A = A1 ++ A2 := by
  have e1 : ds.drop i = d :: ds.drop (i + 1) := by
    obtain ⟨h, e'⟩ := List.getElem?_eq_some_iff.mp e
    rw [List.drop_eq_getElem_cons h, e']
  rw [e1] at r
  cases hv : vs.drop i with
  | nil => rw [hv] at r; cases r
  | cons v l =>
    rw [hv] at r
    obtain ⟨A1, A2, e2, p, q⟩ := r.uncons'
    have hl : i < vs.length := by
      rcases Nat.lt_or_ge i vs.length with h | h
      · exact h
      · rw [List.drop_eq_nil_of_le h] at hv; cases hv
    rw [List.drop_eq_getElem_cons hl] at hv
    injection hv with h1 h2
    refine ⟨v, A1, A2, by rw [List.getElem?_eq_getElem hl, h1], p, ?_, e2⟩
    rw [h2]; exact q
/-- what stands still of a walked list or tuple -/
structure Still (K : PySem.W.Frag) (ca : CA) (lst : Bool) (a : Addr) (vs : List V) (ds : List D) (i : Nat) (S : Own) (H : Hp) (A : List Addr) : Prop where
  at_ : if lst = true then SqL K H a vs else SqT K H a vs
  len : vs.length = ds.length
  own : ∃ R A', A = R ++ A' ∧ Reps K ca S H (vs.drop i) (ds.drop i) A' ∧ ((S a ∧ R = []) ∨ R = [a] ∨ (R = [] ∧ ∀ H', if lst = true then SqL K H' a vs else SqT K H' a vs))
theorem Still.frame {lst : Bool} {a : Addr} {vs : List V} {ds : List D} {i : Nat} {A : List Addr} (h : Still K ca lst a vs ds i S H A) (hs : ∀ a, S a → S' a) (hh : ∀ a, S a → H' a = H a) (hA : ∀ a ∈ A, H' a = H a) : Still K ca lst a vs ds i S' H' A := by
  obtain ⟨h1, h2, R, A', rfl, q, k⟩ := h
  have hq := q.frame hs hh fun b hb => hA b (List.mem_append_right _ hb)
  have same : H' a = H a → (if lst = true then SqL K H' a vs else SqT K H' a vs) := fun e => by
    cases lst with
    | true => exact sql_same h1 e
    | false => exact (show SqT K H a vs from h1).imp (fun r => rd_same r e) id
  rcases k with ⟨k1, k2⟩ | k1 | ⟨k1, k2⟩
  · exact ⟨same (hh a k1), h2, R, A', rfl, hq, .inl ⟨hs a k1, k2⟩⟩
  · exact ⟨same (hA a (by rw [k1]; simp)), h2, R, A', rfl, hq, .inr (.inl k1)⟩
  · exact ⟨k2 H', h2, R, A', rfl, hq, .inr (.inr ⟨k1, k2⟩)⟩
/-- one step -/
theorem Still.step {lst : Bool} {a : Addr} {vs : List V} {ds : List D} {i : Nat} {A L : List Addr} {d : D} (h : Still K ca lst a vs ds i S H A) (e : ds[i]? = some d) (w : Ow S H (A ++ L)) : ∃ v A1 A2, vs[i]? = some v ∧ Rep K ca S H v d A1 ∧ Still K ca lst a vs ds (i + 1) S H A2 ∧ Ow S H (A1 ++ (A2 ++ L)) := by
  obtain ⟨h1, h2, R, A', rfl, q, k⟩ := h
  obtain ⟨v, A1, A2, e1, r, q2, rfl⟩ := drop_get q e
  refine ⟨v, A1, R ++ A2, e1, r, ⟨h1, h2, R, A2, rfl, q2, k⟩, w.perm ?_⟩
  simp only [List.append_assoc]
  exact List.perm_append_comm_assoc A1 R (A2 ++ L)
theorem feed_list {a : Addr} {vs : List V} {ds : List D} : Feed K ca (Itl K a) (ds.map fun d => [d]) false (Still K ca true a vs ds) where
  stop := fun S H A h => ⟨vs, h.at_, by simp [h.len]⟩
  go := fun i x S H A L e h w => by
    obtain ⟨d, e1, rfl⟩ := Option.map_eq_some_iff.mp (show (ds[i]?).map (fun d => [d]) = some x by rw [← List.getElem?_map]; exact e)
    obtain ⟨v, A1, A2, k1, k2, k3, k4⟩ := h.step e1 w
    refine ⟨⟨vs, v, h.at_, k1⟩, fun y H' hy => ?_⟩
    obtain ⟨rfl, hy⟩ := hy
    have := hy vs h.at_
    rw [k1] at this
    cases this
    exact ⟨S, A1, A2, fun _ z => z, fun _ _ z => z, ⟨d, rfl, k2⟩, k3, k4⟩
  fr := fun i S H A S' H' h h1 h2 h3 => h.frame h1 h2 h3
theorem feed_tup {a : Addr} {vs : List V} {ds : List D} : Feed K ca (Itt K a) (ds.map fun d => [d]) false (Still K ca false a vs ds) where
  stop := fun S H A h => ⟨vs, h.at_, by simp [h.len]⟩
  go := fun i x S H A L e h w => by
    obtain ⟨d, e1, rfl⟩ := Option.map_eq_some_iff.mp (show (ds[i]?).map (fun d => [d]) = some x by rw [← List.getElem?_map]; exact e)
    obtain ⟨v, A1, A2, k1, k2, k3, k4⟩ := h.step e1 w
    refine ⟨⟨vs, v, h.at_, k1⟩, fun y H' hy => ?_⟩
    obtain ⟨rfl, hy⟩ := hy
    have := hy vs h.at_
    rw [k1] at this
    cases this
    exact ⟨S, A1, A2, fun _ z => z, fun _ _ z => z, ⟨d, rfl, k2⟩, k3, k4⟩
  fr := fun i S H A S' H' h h1 h2 h3 => h.frame h1 h2 h3
theorem tupsOf_get : ∀ {ds : List D} {its : List (List D)}, tupsOf ds = some its → its.length = ds.length ∧ ∀ (i : Nat) (x : List D), its[i]? = some x → ∃ o, ds[i]? = some (D.tup o x)
  | [], its, e => by
    simp only [tupsOf, Option.some.injEq] at e
    subst e
    exact ⟨rfl, fun i x h => by simp at h⟩
  | d :: ds, its, e => by
    cases d with
    | tup o xs =>
      simp only [tupsOf, Option.map_eq_some_iff] at e
      obtain ⟨l, e1, rfl⟩ := e
      obtain ⟨h1, h2⟩ := tupsOf_get e1
      refine ⟨by simp [h1], fun i x h => ?_⟩
      cases i with
      | zero =>
        simp at h; subst h
        exact ⟨o, rfl⟩
      | succ i => exact h2 i x (by simpa using h)
    | _ => simp [tupsOf] at e
theorem Rep.tupK_ {v : V} {o : Bool} {xs : List D} {A : List Addr} (r : Rep K ca S H v (.tup o xs) A) : ∃ a vs A', v = .ref a ∧ SqT K H a vs ∧ Reps K ca S H vs xs A' ∧ List.Sublist A' A := by
  cases r with
  | tupS s h q => exact ⟨_, _, _, rfl, SqT.of h, q, List.Sublist.refl _⟩
  | tupW h q => exact ⟨_, _, _, rfl, .inr h, q, List.Sublist.refl _⟩
  | tupO h q => exact ⟨_, _, _, rfl, SqT.of h, q, List.sublist_cons_self _ _⟩
theorem feed_listT {a : Addr} {vs : List V} {ds : List D} {its : List (List D)} (ht : tupsOf ds = some its) : Feed K ca (Itl K a) its true (Still K ca true a vs ds) where
  stop := fun S H A h => ⟨vs, h.at_, by rw [h.len, (tupsOf_get ht).1]; exact Nat.le_refl _⟩
  go := fun i x S H A L e h w => by
    obtain ⟨o, e1⟩ := (tupsOf_get ht).2 i x e
    obtain ⟨v, A1, A2, k1, k2, k3, k4⟩ := h.step e1 w
    refine ⟨⟨vs, v, h.at_, k1⟩, fun y H' hy => ?_⟩
    obtain ⟨rfl, hy⟩ := hy
    have := hy vs h.at_
    rw [k1] at this
    cases this
    obtain ⟨t, ys, A3, rfl, q1, q2, q3⟩ := k2.tupK_
    exact ⟨S, A3, A2, fun _ z => z, fun _ _ z => z, ⟨t, ys, rfl, q1, q2⟩, k3, k4.sub (q3.append (List.Sublist.refl _))⟩
  fr := fun i S H A S' H' h h1 h2 h3 => h.frame h1 h2 h3
theorem feed_tupT {a : Addr} {vs : List V} {ds : List D} {its : List (List D)} (ht : tupsOf ds = some its) : Feed K ca (Itt K a) its true (Still K ca false a vs ds) where
  stop := fun S H A h => ⟨vs, h.at_, by rw [h.len, (tupsOf_get ht).1]; exact Nat.le_refl _⟩
  go := fun i x S H A L e h w => by
    obtain ⟨o, e1⟩ := (tupsOf_get ht).2 i x e
    obtain ⟨v, A1, A2, k1, k2, k3, k4⟩ := h.step e1 w
    refine ⟨⟨vs, v, h.at_, k1⟩, fun y H' hy => ?_⟩
    obtain ⟨rfl, hy⟩ := hy
    have := hy vs h.at_
    rw [k1] at this
    cases this
    obtain ⟨t, ys, A3, rfl, q1, q2, q3⟩ := k2.tupK_
    exact ⟨S, A3, A2, fun _ z => z, fun _ _ z => z, ⟨t, ys, rfl, q1, q2⟩, k3, k4.sub (q3.append (List.Sublist.refl _))⟩
  fr := fun i S H A S' H' h h1 h2 h3 => h.frame h1 h2 h3
theorem feed_rng {lo : Int} {n : Nat} : Feed K ca (Itr lo n) ((List.range n).map fun (k : Nat) => [D.int (lo + k)]) false (fun _ _ _ A => A = []) where
  stop := fun S H A h => by simp [Itr]
  go := fun i x S H A L e h w => by
    subst h
    obtain ⟨d, e1, rfl⟩ := Option.map_eq_some_iff.mp (show ((List.range n)[i]?).map (fun (k : Nat) => [D.int (lo + k)]) = some x by rw [← List.getElem?_map]; exact e)
    obtain ⟨h1, h2⟩ := List.getElem?_eq_some_iff.mp e1
    rw [List.length_range] at h1
    rw [List.getElem_range] at h2
    subst h2
    refine ⟨h1, fun y H' hy => ?_⟩
    obtain ⟨rfl, rfl⟩ := hy
    exact ⟨S, [], [], fun _ z => z, fun _ _ z => z, ⟨_, rfl, .int _⟩, rfl, w⟩
  fr := fun i S H A S' H' h h1 h2 h3 => h
theorem feed_str {x : Str} : Feed K ca (Its x) (x.cps.toList.map fun c => [D.str ⟨#[c]⟩]) false (fun _ _ _ A => A = []) where
  stop := fun S H A h => by
    show x.cps.size ≤ (x.cps.toList.map fun c => [D.str ⟨#[c]⟩]).length
    simp
  go := fun i y S H A L e h w => by
    subst h
    obtain ⟨d, e1, rfl⟩ := Option.map_eq_some_iff.mp (show (x.cps.toList[i]?).map (fun c => [D.str ⟨#[c]⟩]) = some y by rw [← List.getElem?_map]; exact e)
    have e2 : x.cps[i]? = some d := by rw [← Array.getElem?_toList]; exact e1
    refine ⟨(Array.getElem?_eq_some_iff.mp e2).1, fun z H' hy => ?_⟩
    obtain ⟨rfl, c, h1, rfl⟩ := hy
    rw [e2] at h1
    cases h1
    exact ⟨S, [], [], fun _ z => z, fun _ _ z => z, ⟨_, rfl, .str _⟩, rfl, w⟩
  fr := fun i S H A S' H' h h1 h2 h3 => h
theorem feed_scr {a : Addr} {ns : List Int} : Feed K ca (Itl K a) (ns.map fun n => [D.int n]) false (fun _ S H A => A = [] ∧ ((S a ∧ Rd H a (.lst (ns.map V.int))) ∨ WrL K a (ns.map V.int))) where
  stop := fun S H A h => ⟨ns.map V.int, h.2.elim (fun z => .inl z.2) .inr, by simp⟩
  go := fun i x S H A L e h w => by
    obtain ⟨rfl, h⟩ := h
    obtain ⟨d, e1, rfl⟩ := Option.map_eq_some_iff.mp (show (ns[i]?).map (fun d => [D.int d]) = some x by rw [← List.getElem?_map]; exact e)
    have hq : SqL K H a (ns.map V.int) := h.elim (fun z => .inl z.2) .inr
    have e2 : (ns.map V.int)[i]? = some (V.int d) := by rw [List.getElem?_map, e1]; rfl
    refine ⟨⟨_, _, hq, e2⟩, fun y H' hy => ?_⟩
    obtain ⟨rfl, hy⟩ := hy
    have := hy _ hq
    rw [e2] at this
    cases this
    exact ⟨S, [], [], fun _ z => z, fun _ _ z => z, ⟨_, rfl, .int _⟩, ⟨rfl, h⟩, w⟩
  fr := fun i S H A S' H' h h1 h2 h3 => ⟨h.1, h.2.imp (fun z => ⟨h1 _ z.1, rd_same z.2 (h2 _ z.1)⟩) id⟩
theorem feed_enum {a : Addr} {vs : List V} {ds : List D} : Feed K ca (Ite K a) ((ds.zip (List.range ds.length)).map fun p => [D.int (p.2 : Nat), p.1]) true (fun i S H A => Still K ca true a vs ds i S H A) where
  stop := fun S H A h => ⟨vs, h.at_, by simp [h.len]⟩
  go := fun i x S H A L e h w => by
    obtain ⟨p, e1, rfl⟩ := Option.map_eq_some_iff.mp (show ((ds.zip (List.range ds.length))[i]?).map (fun p => [D.int (p.2 : Nat), p.1]) = some x by rw [← List.getElem?_map]; exact e)
    rw [List.getElem?_zip_eq_some] at e1
    obtain ⟨e1, e2⟩ := e1
    obtain ⟨g1, g2⟩ := List.getElem?_eq_some_iff.mp e2
    rw [List.getElem_range] at g2
    obtain ⟨v, A1, A2, k1, k2, k3, k4⟩ := h.step e1 w
    refine ⟨⟨vs, v, h.at_, k1⟩, fun y H' hy => ?_⟩
    obtain ⟨T, y', rfl, hT, rfl, hy⟩ := hy
    have := hy vs h.at_
    rw [k1] at this
    cases this
    have fr := Fr.new (pu := true) (o := .tup [.int (i : Nat), v]) k4 hT
    have s2 : ∀ z, S z → (fun z => S z ∨ z = T) z := fun _ z => .inl z
    refine ⟨fun z => S z ∨ z = T, A1, A2, s2, fun b o e => by rw [upd_ne (ne_of_none e hT)]; exact e, ⟨T, _, rfl, SqT.of upd_same, ?_⟩, ?_, ?_⟩
    · rw [← g2]
      exact Reps.cons (A := []) (.int _) (Reps.one (k2.frame s2 (fun z hz => fr.st z (.inl hz)) fun z hz => fr.st z (.inr (List.mem_append_left _ hz))))
    · exact k3.frame s2 (fun z hz => fr.st z (.inl hz)) fun z hz => fr.st z (.inr (List.mem_append_right _ (List.mem_append_left _ hz)))
    · exact k4.newC hT
  fr := fun i S H A S' H' h h1 h2 h3 => h.frame h1 h2 h3
/-- a list or tuple in hand, to be walked -/
theorem still_of {x : V} {d : D} {A : List Addr} (r : Rep K ca S H x d A) {ds : List D} (e : d.items = some ds) : ∃ lst a vs, x = .ref a ∧ Still K ca lst a vs ds 0 S H A ∧ ((lst = true ∧ ∃ xs, SqL K H a xs) ∨ (lst = false ∧ ∃ xs, SqT K H a xs)) := by
  cases r with
  | lstS s h q => cases e; exact ⟨true, _, _, rfl, ⟨SqL.of h, q.length, [], [], rfl, q, .inl ⟨s, rfl⟩⟩, .inl ⟨rfl, _, SqL.of h⟩⟩
  | lstO h q => cases e; exact ⟨true, _, _, rfl, ⟨SqL.of h, q.length, [_], _, rfl, q, .inr (.inl rfl)⟩, .inl ⟨rfl, _, SqL.of h⟩⟩
  | tupS s h q => cases e; exact ⟨false, _, _, rfl, ⟨SqT.of h, q.length, [], [], rfl, q, .inl ⟨s, rfl⟩⟩, .inr ⟨rfl, _, SqT.of h⟩⟩
  | tupW h q => cases e; exact ⟨false, _, _, rfl, ⟨.inr h, q.length, [], [], rfl, q, .inr (.inr ⟨rfl, fun _ => .inr h⟩)⟩, .inr ⟨rfl, _, .inr h⟩⟩
  | tupO h q => cases e; exact ⟨false, _, _, rfl, ⟨SqT.of h, q.length, [_], _, rfl, q, .inr (.inl rfl)⟩, .inr ⟨rfl, _, SqT.of h⟩⟩
  | _ => simp [D.items] at e
end
section
variable {m : Pm} {X : Cx} {W : WX} {c : Ctx} {pos : Pos} {tg : Expr}
theorem PI.imp {e : Expr} {t t' : TI} (h : PI X tg e t) (k : ∀ σ H R, t' σ H R → t σ H R) : PI X tg e t' := ⟨fun pins s σ H R I q => h.run pins s σ H R I (k _ _ _ q)⟩
theorem PI.or {e : Expr} {t t' : TI} (h : PI X tg e t) (h' : PI X tg e t') : PI X tg e fun σ H R => t σ H R ∨ t' σ H R := ⟨fun pins s σ H R I q => q.elim (h.run pins s σ H R I) (h'.run pins s σ H R I)⟩
/-- a list or a tuple, as it comes -/
theorem pi_seq {l : Expr} {tl : TE} (hl : PE X l tl) : PI X tg l (fun σ H R => tl σ H fun x H1 => ∃ a, x = .ref a ∧ ((∃ xs, SqL X.K H1 a xs) ∧ R (Itl X.K a) H1 ∨ (∃ xs, SqT X.K H1 a xs) ∧ R (Itt X.K a) H1)) := by
  refine ⟨fun pins s σ H R I h => ?_⟩
  refine thn (hl.run pins s σ H _ I h) fun v s1 ⟨x, H1, I1, r1, a, ex, q⟩ => ?_
  subst ex
  cases r1
  rcases q with ⟨⟨xs, hq⟩, hR⟩ | ⟨⟨xs, hq⟩, hR⟩
  · obtain ⟨its, rv, p, hz⟩ := I1.list hq
    refine wpAny_pyIter_list p.isList ?_
    refine ⟨s1.heap.objs.size, [s1.heap.objs.size], _, _, H1, rfl, I1.kept (t' := s1.toks) fun b o e => Heap.get?_push_of_some _ e, turn_list a _, ⟨_, Heap.get?_push_size _ rfl, rfl, rfl⟩, fun b hb => ?_, hR⟩
    have e : b = s1.heap.objs.size := by simpa using hb
    subst e
    exact I1.fpOk (Nat.le_refl _) (I1.hok.fresh (Nat.le_refl _))
  · obtain ⟨its, rv, p, hz⟩ := I1.tuple hq
    refine wpAny_pyIter_tuple (show s1.heap.IsTuple a its.toArray from p) ?_
    refine ⟨s1.heap.objs.size, [s1.heap.objs.size], _, _, H1, rfl, I1.kept (t' := s1.toks) fun b o e => Heap.get?_push_of_some _ e, turn_tuple a _, ⟨_, Heap.get?_push_size _ rfl, rfl, rfl⟩, fun b hb => ?_, hR⟩
    have e : b = s1.heap.objs.size := by simpa using hb
    subst e
    exact I1.fpOk (Nat.le_refl _) (I1.hok.fresh (Nat.le_refl _))
/-- a list, a tuple or a string, as it comes -/
theorem pi_seqS {l : Expr} {tl : TE} (hl : PE X l tl) : PI X tg l (fun σ H R => tl σ H fun x H1 => (∃ a, x = .ref a ∧ ((∃ xs, SqL X.K H1 a xs) ∧ R (Itl X.K a) H1 ∨ (∃ xs, SqT X.K H1 a xs) ∧ R (Itt X.K a) H1)) ∨ ∃ z, x = .str z ∧ R (Its z) H1) := by
  refine ⟨fun pins s σ H R I h => ?_⟩
  refine thn (hl.run pins s σ H _ I h) fun v s1 ⟨x, H1, I1, r1, q⟩ => ?_
  rcases q with ⟨a, ex, q⟩ | ⟨z, ex, q⟩
  · subst ex
    cases r1
    rcases q with ⟨⟨xs, hq⟩, hR⟩ | ⟨⟨xs, hq⟩, hR⟩
    · obtain ⟨its, rv, p, hz⟩ := I1.list hq
      refine wpAny_pyIter_list p.isList ?_
      refine ⟨s1.heap.objs.size, [s1.heap.objs.size], _, _, H1, rfl, I1.kept (t' := s1.toks) fun b o e => Heap.get?_push_of_some _ e, turn_list a _, ⟨_, Heap.get?_push_size _ rfl, rfl, rfl⟩, fun b hb => ?_, hR⟩
      have e : b = s1.heap.objs.size := by simpa using hb
      subst e
      exact I1.fpOk (Nat.le_refl _) (I1.hok.fresh (Nat.le_refl _))
    · obtain ⟨its, rv, p, hz⟩ := I1.tuple hq
      refine wpAny_pyIter_tuple (show s1.heap.IsTuple a its.toArray from p) ?_
      refine ⟨s1.heap.objs.size, [s1.heap.objs.size], _, _, H1, rfl, I1.kept (t' := s1.toks) fun b o e => Heap.get?_push_of_some _ e, turn_tuple a _, ⟨_, Heap.get?_push_size _ rfl, rfl, rfl⟩, fun b hb => ?_, hR⟩
      have e : b = s1.heap.objs.size := by simpa using hb
      subst e
      exact I1.fpOk (Nat.le_refl _) (I1.hok.fresh (Nat.le_refl _))
  · subst ex
    obtain ⟨t, rfl⟩ := r1
    cases ha : z.cps.all (· < 128)
    · exact wpAny_pyIter_wide ha (pi_one (tk := s1.toks) I1 _ (turn_str _ z t "str_iterator" (.inr rfl)) ⟨_, Heap.get?_push_size _ rfl, rfl, rfl⟩ q)
    · exact wpAny_pyIter_ascii ha (pi_one (tk := s1.toks) I1 _ (turn_str _ z t "str_ascii_iterator" (.inl rfl)) ⟨_, Heap.get?_push_size _ rfl, rfl, rfl⟩ q)
theorem i_seq {e : E} {a : Expr} (ha : PE X a (aO m X W e)) : PI X tg a (aIt m X W false (.seq e)) := by
  refine PI.imp (pi_seqS ha) fun σ H R q => ?_
  obtain ⟨S, O, ρ, B, hρ, w, hp⟩ := Ask.eq (g := fun ρ => (e.ow m.F ρ).bnd fun d ρ => match d.iter with
    | some xs => .ok (xs.map fun x => [x]) ρ
    | none => .bad) q fun ρ => by
      (simp only [It.go, E.ow, Hm.R.bnd_assoc] <;> rfl)
  refine ⟨S, O, ρ, B, hρ, w, (Post.bnd0 (val := vO X.K m.ca) (pu2 := false) hp).imp fun v H1 ⟨d, ρ1, S1, A1, B1, n⟩ => ?_⟩
  have po := n.post
  have r : Rep X.K m.ca S1 H1 v d A1 := n.v
  cases ei : d.iter with
  | none => rw [ei] at po; exact po.elim
  | some ds =>
    rw [ei] at po
    have lists : d.items = some ds → (∃ a, v = .ref a ∧ ((∃ xs, SqL X.K H1 a xs) ∧ R (Itl X.K a) H1 ∨ (∃ xs, SqT X.K H1 a xs) ∧ R (Itt X.K a) H1)) := fun ei => by
      obtain ⟨lst, b, vs, rfl, st, hk⟩ := still_of r ei
      refine ⟨b, rfl, ?_⟩
      rcases hk with ⟨rfl, hq⟩ | ⟨rfl, hq⟩
      · exact .inl ⟨hq, po _ S1 H1 A1 B1 n.sub (n.fr.weak fun z => z) ⟨_, feed_list, st⟩ n.env n.ow⟩
      · exact .inr ⟨hq, po _ S1 H1 A1 B1 n.sub (n.fr.weak fun z => z) ⟨_, feed_tup, st⟩ n.env n.ow⟩
    cases d with
    | str z =>
      cases ei
      obtain rfl := r.str_
      have e1 : A1 = [] := r.nil_of rfl
      subst e1
      exact .inr ⟨z, rfl, po _ S1 H1 [] B1 n.sub (n.fr.weak fun z => z) ⟨_, by
        have := feed_str (K := X.K) (ca := m.ca) (x := z)
        rw [show (List.map (fun x => [x]) (List.map (fun c => D.str { cps := #[c] }) z.cps.toList)) = (z.cps.toList.map fun c => [D.str ⟨#[c]⟩]) by rw [List.map_map]; rfl]
        exact this, rfl⟩ n.env n.ow⟩
    | _ => exact .inl (lists ei)
theorem i_seqT {e : E} {a : Expr} (ha : PE X a (aO m X W e)) : PI X tg a (aIt m X W true (.seqT e)) := by
  refine PI.imp (pi_seq ha) fun σ H R q => ?_
  obtain ⟨S, O, ρ, B, hρ, w, hp⟩ := Ask.eq (g := fun ρ => (e.ow m.F ρ).bnd fun d ρ => match d.items with
    | some xs => .opt (tupsOf xs) ρ
    | none => .bad) q fun ρ => by
      (simp only [It.go, E.ow, Hm.R.bnd_assoc] <;> rfl)
  refine ⟨S, O, ρ, B, hρ, w, (Post.bnd0 (val := vO X.K m.ca) (pu2 := false) hp).imp fun v H1 ⟨d, ρ1, S1, A1, B1, n⟩ => ?_⟩
  have po := n.post
  have r : Rep X.K m.ca S1 H1 v d A1 := n.v
  cases ei : d.items with
  | none => rw [ei] at po; exact po.elim
  | some ds =>
    rw [ei] at po
    dsimp only at po
    cases et : tupsOf ds with
    | none => rw [et] at po; exact po.elim
    | some its =>
      rw [et] at po
      obtain ⟨lst, b, vs, rfl, st, hk⟩ := still_of r ei
      refine ⟨b, rfl, ?_⟩
      rcases hk with ⟨rfl, hq⟩ | ⟨rfl, hq⟩
      · exact .inl ⟨hq, po _ S1 H1 A1 B1 n.sub (n.fr.weak fun z => z) ⟨_, feed_listT et, st⟩ n.env n.ow⟩
      · exact .inr ⟨hq, po _ S1 H1 A1 B1 n.sub (n.fr.weak fun z => z) ⟨_, feed_tupT et, st⟩ n.env n.ow⟩
theorem i_scr {e : E} {a : Expr} (ha : PE X a (aE m X W e)) : PI X tg a (aIt m X W false (.scr e)) := by
  refine PI.imp (pi_seq ha) fun σ H R ⟨S, O, ρ, B, hρ, w, hp⟩ => ?_
  simp only [It.go] at hp
  refine ⟨S, O, ρ, B, hρ, w, (Post.bnd0 hp).imp fun v H1 ⟨d, ρ1, S1, A1, B1, n⟩ => ?_⟩
  have po := n.post
  obtain ⟨A', r, _⟩ := n.v
  split at po
  · rename_i ns ed
    rw [ed] at r
    have w1 : Ow S1 H1 ([] ++ B1 ++ O) := n.ow.drop1
    cases r with
    | scrS s h => exact ⟨_, rfl, .inl ⟨⟨_, .inl h⟩, po _ S1 H1 [] B1 n.sub (n.fr.weak (by intro z; cases z)) ⟨_, feed_scr, rfl, .inl ⟨s, h⟩⟩ n.env w1⟩⟩
    | scrW h => exact ⟨_, rfl, .inl ⟨⟨_, .inr h⟩, po _ S1 H1 [] B1 n.sub (n.fr.weak (by intro z; cases z)) ⟨_, feed_scr, rfl, .inr h⟩ n.env w1⟩⟩
  · exact po.elim
theorem i_rng (hx : CtxOk m c X W) {e : E} {a : Expr} {p : Pos} (hb : blB m.t c "range" = true) (hs : notSt a = true) (ha : PE X a (aE m X W e)) : PI X tg (.Call (.Name "range" p) [a] [] pos) (aIt m X W false (.rng e)) := by
  obtain ⟨q1, q2, q3, q4⟩ := hx.bl hb
  have st : starEach [a] X.env = [(false, eval a X.env)] := star_cons hs [] X.env
  refine PI.imp (pi_range1 q1 q4 (pa_cons ha pa_nil st) st) fun σ H R ⟨S, O, ρ, B, hρ, w, hp⟩ => ?_
  simp only [It.go] at hp
  refine ⟨S, O, ρ, B, hρ, w, (Post.bnd0 hp).imp fun v H1 ⟨d, ρ1, S1, A1, B1, n⟩ => ?_⟩
  have po := n.post
  obtain ⟨A', r, _⟩ := n.v
  split at po
  · rename_i j ed
    split at po
    · rename_i hj
      rw [ed] at r
      refine ⟨j, by rw [r.int_], hj.1, hj.2, ?_⟩
      have w1 : Ow S1 H1 ([] ++ B1 ++ O) := n.ow.drop1
      have f := feed_rng (K := X.K) (ca := m.ca) (lo := 0) (n := j.toNat)
      simp only [Int.zero_add] at f
      exact po _ S1 H1 [] B1 n.sub (n.fr.weak (by intro z; cases z)) ⟨_, f, rfl⟩ n.env w1
    · exact po.elim
  · exact po.elim
theorem i_rng2 (hx : CtxOk m c X W) {e k : E} {a b : Expr} {p : Pos} (hb : blB m.t c "range" = true) (hs : notSt a = true) (hs2 : notSt b = true) (ha : PE X a (aE m X W e)) (hk : PE X b (aE m X W k)) : PI X tg (.Call (.Name "range" p) [a, b] [] pos) (aIt m X W false (.rng2 e k)) := by
  obtain ⟨q1, q2, q3, q4⟩ := hx.bl hb
  have st2 : starEach [b] X.env = [(false, eval b X.env)] := star_cons hs2 [] X.env
  have st : starEach [a, b] X.env = [(false, eval a X.env), (false, eval b X.env)] := by rw [star_cons hs, st2]
  refine PI.imp (pi_range2 q1 q4 (pa_cons ha (pa_cons hk pa_nil st2) (star_cons hs _ _)) st st2) fun σ H R ⟨S, O, ρ, B, hρ, w, hp⟩ => ?_
  simp only [It.go] at hp
  refine ⟨S, O, ρ, B, hρ, w, (Post.bnd0 hp).imp fun v H1 ⟨d, ρ1, S1, A1, B1, n⟩ => ?_⟩
  refine Ask.imp (ask_next (val := vE X.K m.ca) (f := fun ρ => k.go m.F ρ) n.env n.ow n.sub n.fr n.post) fun u H2 ⟨d2, ρ2, S2, A2, B2, n2⟩ => ?_
  obtain ⟨A', r, _⟩ := n.v
  obtain ⟨A'', r2, _⟩ := n2.v
  have po := n2.post
  split at po
  · rename_i i j e1 e2
    split at po
    · rename_i hj
      rw [e1] at r
      rw [e2] at r2
      refine ⟨i, j, by rw [r.int_, r2.int_], ⟨hj.1.1, hj.1.2, hj.2.1, hj.2.2⟩, ?_⟩
      have w1 : Ow S2 H2 ([] ++ B2 ++ O) := n2.ow.drop1.sub ((List.Sublist.refl _).append (List.sublist_append_right _ _))
      exact po _ S2 H2 [] B2 (fun x z => n2.sub x (n.sub x z)) ((n.fr.trans n2.fr n.sub fun a ha => List.mem_append_right _ ha).weak (by intro z; cases z)) ⟨_, feed_rng, rfl⟩ n2.env w1
    · exact po.elim
  · exact po.elim
theorem i_enum (hx : CtxOk m c X W) {e : E} {a : Expr} {p tp : Pos} {elts : List Expr} {kk : Nat} (hb : blB m.t c "enumerate" = true) (hs : notSt a = true) (ha : PE X a (aO m X W e)) : PI X (.Tuple elts kk tp) (.Call (.Name "enumerate" p) [a] [] pos) (aIt m X W true (.enum e)) := by
  obtain ⟨q1, q2, q3, q4⟩ := hx.bl hb
  have st : starEach [a] X.env = [(false, eval a X.env)] := star_cons hs [] X.env
  refine PI.imp (pi_enum q1 q4 (pa_cons ha pa_nil st) st) fun σ H R q => ?_
  obtain ⟨S, O, ρ, B, hρ, w, hp⟩ := Ask.eq (g := fun ρ => (e.ow m.F ρ).bnd fun d ρ => match d with
    | .lst _ xs => if isCs xs = true then .ok ((xs.zip (List.range xs.length)).map fun p => [.int (p.2 : Nat), p.1]) ρ else .bad
    | _ => .bad) q fun ρ => by
      (simp only [It.go, E.ow, Hm.R.bnd_assoc] <;> rfl)
  refine ⟨S, O, ρ, B, hρ, w, (Post.bnd0 (val := vO X.K m.ca) (pu2 := false) hp).imp fun v H1 ⟨d, ρ1, S1, A1, B1, n⟩ => ?_⟩
  have po := n.post
  have r : Rep X.K m.ca S1 H1 v d A1 := n.v
  split at po
  · rename_i o xs
    split at po
    · cases r with
      | lstS s h q => exact ⟨_, _, rfl, SqL.of h, po _ S1 H1 _ B1 n.sub (n.fr.weak fun z => z) ⟨_, feed_enum, ⟨SqL.of h, q.length, [], [], rfl, q, .inl ⟨s, rfl⟩⟩⟩ n.env n.ow⟩
      | lstO h q => exact ⟨_, _, rfl, SqL.of h, po _ S1 H1 _ B1 n.sub (n.fr.weak fun z => z) ⟨_, feed_enum, ⟨SqL.of h, q.length, [_], _, rfl, q, .inr (.inl rfl)⟩⟩ n.env n.ow⟩
    · exact po.elim
  · exact po.elim
end
end Hm
end
section
set_option Elab.async false
set_option linter.all false
set_option maxRecDepth 100000
/-! Targets; list comprehensions. -/
namespace Hm
open PySem PySem.Spec PyProof.Rows L2
/-! ### targets -/
def setAll (σ : L2.St) (tg : List Nat) (xs : List V) : L2.St := (tg.zip xs).foldl (fun σ p => σ.set p.1 (some p.2)) σ
def gT (K : PySem.W.Frag) (tup : Bool) (tg : List Nat) : TG := fun v σ H Q =>
  if tup = true then ∃ a xs, v = .ref a ∧ SqT K H a xs ∧ xs.length = tg.length ∧ Q (setAll σ tg xs) H else tg.length = 1 ∧ Q (setAll σ tg [v]) H
def isTupE : Expr → Bool
  | .Tuple _ _ _ => true
  | _ => false
section
variable {m : Pm} {X : Cx} {W : WX} {c : Ctx} {pos : Pos}
/-- a place where names are stored -/
structure StOk (c : Ctx) (X : Cx) : Prop where
  N : X.N = c.N
  nd : X.N.Nodup
  sc : X.env.scope = c.sc
  fn : X.fn = c.fn
  calm : X.calm = true
theorem StOk.loc (h : StOk c X) {i : Nat} {x : Str} (e : locB c i x = true) : X.N[i]? = some x ∧ L2.Loc X.env.scope x ∧ (X.fn x = true ∨ X.env.scope.names.lookup x = some .local) := by
  simp only [locB, okN, Bool.and_eq_true, Bool.not_eq_true', decide_eq_true_eq, decide_eq_false_iff_not] at e
  refine ⟨by rw [h.N]; exact e.1, ?_⟩
  have q := e.2.1
  unfold L2.Loc
  rw [h.sc, h.fn]
  split at q
  · rename_i z
    exact ⟨.inl z, .inr z⟩
  · rename_i z
    exact ⟨.inr z, .inl q⟩
  · cases q
theorem CtxOk.st (h : CtxOk m c X W) : StOk c X := ⟨h.N, h.nd, h.sc, h.fn, h.calm⟩
theorem PG.imp {e : Expr} {t t' : TG} (h : PG X e t) (k : ∀ v σ H Q, t' v σ H Q → t v σ H Q) : PG X e t' := ⟨fun pins s σ H v u Q I r q => h.run pins s σ H v u Q I r (k _ _ _ _ q)⟩
theorem pg_of (h : StOk c X) {tg : List Nat} {e : Expr} (hm : mTg c tg e = true) : PG X e (gT X.K (isTupE e) tg) := by
  unfold mTg at hm
  split at hm
  · obtain ⟨h1, h2, h3⟩ := h.loc hm
    refine PG.imp (pg_name h.nd h1 h2 h3) fun v σ H Q q => ?_
    exact q.2
  · simp only [Bool.and_eq_true, decide_eq_true_eq] at hm
    obtain ⟨h1, h2, h3⟩ := h.loc hm.1
    obtain ⟨k1, k2, k3⟩ := h.loc hm.2.1
    refine PG.imp (pg_tup h.calm (pgs_cons (pg_name h.nd h1 h2 h3) (pgs_cons (pg_name h.nd k1 k2 k3) pgs_nil))) fun v σ H Q q => ?_
    obtain ⟨a, xs, rfl, hq, hl, q⟩ := q
    match xs, hl with
    | [x, y], _ => exact ⟨a, [x, y], rfl, hq, rfl, x, [y], rfl, y, [], rfl, rfl, q⟩
  · simp only [Bool.and_eq_true, decide_eq_true_eq] at hm
    obtain ⟨h1, h2, h3⟩ := h.loc hm.1
    obtain ⟨k1, k2, k3⟩ := h.loc hm.2.1
    obtain ⟨l1, l2, l3⟩ := h.loc hm.2.2.1
    refine PG.imp (pg_tup h.calm (pgs_cons (pg_name h.nd h1 h2 h3) (pgs_cons (pg_name h.nd k1 k2 k3) (pgs_cons (pg_name h.nd l1 l2 l3) pgs_nil)))) fun v σ H Q q => ?_
    obtain ⟨a, xs, rfl, hq, hl, q⟩ := q
    match xs, hl with
    | [x, y, z], _ => exact ⟨a, [x, y, z], rfl, hq, rfl, x, [y, z], rfl, y, [z], rfl, z, [], rfl, rfl, q⟩
  · cases hm
end
theorem setAll_length : ∀ {tg : List Nat} {xs : List V} {σ : L2.St}, (setAll σ tg xs).length = σ.length := by
  intro tg
  induction tg with
  | nil => intro xs σ; rfl
  | cons i tg ih =>
    intro xs σ
    cases xs with
    | nil => rfl
    | cons x xs => exact (ih (xs := xs) (σ := σ.set i (some x))).trans (List.length_set ..)
theorem setAll_get : ∀ {tg : List Nat} {xs : List V} {σ : L2.St} {j : Nat}, j ∉ tg → (setAll σ tg xs)[j]? = σ[j]? := by
  intro tg
  induction tg with
  | nil => intro xs σ j h; rfl
  | cons i tg ih =>
    intro xs σ j h
    simp only [List.mem_cons, not_or] at h
    cases xs with
    | nil => rfl
    | cons x xs => exact (ih (xs := xs) (σ := σ.set i (some x)) h.2).trans (List.getElem?_set_ne (Ne.symm h.1))
theorem wipe_get {σ : L2.St} {j : Nat} : ∀ {tg : List Nat}, (wipe σ tg)[j]? = if j ∈ tg then (if j < σ.length then some none else none) else σ[j]?
  | [] => by simp [wipe]
  | i :: tg => by
    show ((wipe σ tg).set i none)[j]? = _
    by_cases e : i = j
    · subst e
      simp only [List.mem_cons, true_or, if_true]
      by_cases hl : i < σ.length
      · rw [List.getElem?_set_self (by rw [wipe_length]; exact hl), if_pos hl]
      · rw [if_neg hl, List.getElem?_eq_none_iff.mpr]
        rw [List.length_set, wipe_length]
        omega
    · rw [List.getElem?_set_ne e, wipe_get (tg := tg)]
      have : j ∈ i :: tg ↔ j ∈ tg := by simp [Ne.symm e]
      simp only [this]
theorem wipe_setAll {σ : L2.St} {tg : List Nat} {xs : List V} : wipe (setAll (wipe σ tg) tg xs) tg = wipe (wipe σ tg) tg := by
  apply List.ext_getElem?
  intro j
  rw [wipe_get, wipe_get, setAll_length]
  by_cases h : j ∈ tg
  · simp [h]
  · rw [if_neg h, if_neg h, setAll_get h]
theorem wipe_wipe {σ : L2.St} {tg : List Nat} : wipe (wipe σ tg) tg = wipe σ tg := by
  apply List.ext_getElem?
  intro j
  rw [wipe_get, wipe_get, wipe_length]
  by_cases h : j ∈ tg <;> simp [h]
section
variable {K : PySem.W.Frag} {ca : CA} {S S' : Own} {H H' : Hp} {σ : L2.St} {ρ : Ev} {B : List Addr}
theorem RepE.putAll : ∀ {tg : List Nat} {xs : List V} {ds : List D} {A : List Addr} {σ : L2.St} {ρ : Ev} {B : List Addr}, RepE K ca S H σ ρ B → Reps K ca S H xs ds A → (∀ i ∈ tg, i < σ.length) → xs.length = tg.length → ∃ B', RepE K ca S H (setAll σ tg xs) (putE ρ tg ds) B' ∧ ∃ Z, List.Sublist Z (A ++ B) ∧ B'.Perm Z := by
  intro tg
  induction tg with
  | nil =>
    intro xs ds A σ ρ B h r hl hlen
    exact ⟨B, h, B, List.sublist_append_right _ _, List.Perm.refl _⟩
  | cons i tg ih =>
    intro xs ds A σ ρ B h r hl hlen
    cases r with
    | nil => simp at hlen
    | @cons v vs d ds A1 A2 p q =>
      obtain ⟨B1, k1, B0, k2, k3⟩ := h.put i (hl i List.mem_cons_self) p
      obtain ⟨B2, k4, Z, k5, k6⟩ := ih k1 q (fun j hj => by rw [List.length_set]; exact hl j (List.mem_cons_of_mem _ hj)) (by simpa using hlen)
      refine ⟨B2, k4, ?_⟩
      -- B2 ~ Z <= A2 ++ B1, B1 ~ A1 ++ B0
      have p1 : (A2 ++ B1).Perm (A1 ++ (A2 ++ B0)) := (k3.append_left A2).trans (List.perm_append_comm_assoc A2 A1 B0)
      obtain ⟨Z', z1, z2⟩ := List.exists_perm_sublist k5 p1
      refine ⟨Z', ?_, k6.trans z1.symm⟩
      rw [List.append_assoc]
      exact z2.trans ((List.Sublist.refl _).append ((List.Sublist.refl _).append k2))
theorem RepE.wipe_ : ∀ (tg : List Nat) {ρ : Ev} {B : List Addr}, RepE K ca S H σ ρ B → ∃ B', RepE K ca S H σ (wipeE ρ tg) B' ∧ List.Sublist B' B := by
  intro tg
  induction tg with
  | nil => intro ρ B h; exact ⟨B, h, List.Sublist.refl _⟩
  | cons i tg ih =>
    intro ρ B h
    obtain ⟨B1, h1, h2, _⟩ := h.off i
    obtain ⟨B2, h3, h4⟩ := ih h1
    exact ⟨B2, h3, h4.trans h2⟩
theorem wipeE_get {tg : List Nat} : ∀ {ρ : Ev} {i : Nat}, (i ∈ tg ∨ ρ[i]? = some none ∨ ρ[i]? = none) → (wipeE ρ tg)[i]? = some none ∨ (wipeE ρ tg)[i]? = none := by
  induction tg with
  | nil =>
    intro ρ i h
    rcases h with h | h
    · exact nomatch h
    · exact h
  | cons j tg ih =>
    intro ρ i h
    show (wipeE (ρ.set j none) tg)[i]? = _ ∨ (wipeE (ρ.set j none) tg)[i]? = _
    apply ih
    by_cases e : j = i
    · subst e
      by_cases hl : j < ρ.length
      · exact .inr (.inl (by rw [List.getElem?_set_self hl]))
      · exact .inr (.inr (by rw [List.getElem?_eq_none_iff, List.length_set]; omega))
    · rcases h with h | h
      · rcases List.mem_cons.mp h with h | h
        · exact absurd h.symm e
        · exact .inl h
      · rw [List.getElem?_set_ne e]
        exact .inr h
/-- names that hold nothing may be anything -/
theorem RepE.toWipe : ∀ {tg : List Nat}, RepE K ca S H σ ρ B → (∀ i ∈ tg, ρ[i]? = some none ∨ ρ[i]? = none) → RepE K ca S H (wipe σ tg) ρ B := by
  intro tg
  induction tg with
  | nil => intro h _; exact h
  | cons i tg ih => intro h hn; exact (ih h fun j hj => hn j (List.mem_cons_of_mem _ hj)).any i none (hn i List.mem_cons_self)
theorem RepE.unWipe : ∀ {tg : List Nat}, RepE K ca S H (wipe σ tg) ρ B → (∀ i ∈ tg, ρ[i]? = some none ∨ ρ[i]? = none) → RepE K ca S H σ ρ B := by
  intro tg
  induction tg with
  | nil => intro h _; exact h
  | cons i tg ih =>
    intro h hn
    refine ih ?_ fun j hj => hn j (List.mem_cons_of_mem _ hj)
    have h' : RepE K ca S H ((wipe σ tg).set i none) ρ B := h
    cases e : (wipe σ tg)[i]? with
    | none =>
      rw [List.set_eq_of_length_le (by rw [List.getElem?_eq_none_iff] at e; exact e)] at h'
      exact h'
    | some x =>
      have := h'.any i x (hn i List.mem_cons_self)
      rw [List.set_set, set_self_get e] at this
      exact this
end
end Hm
end
section
set_option Elab.async false
set_option linter.all false
set_option maxRecDepth 100000
/-! List comprehensions. -/
namespace Hm
open PySem PySem.Spec PyProof.Rows L2
theorem lcGo_some {tg : List Nat} {el : Ev → R D} {cs : Ev → R Bool} {x : List D} {xs : List (List D)} {ρ : Ev} {acc : List D} :
    lcGo tg el cs (x :: xs) ρ acc = if x.length = tg.length ∧ tgIn ρ tg = true then (cs (putE ρ tg x)).bnd fun b ρ1 => if b = true then (el ρ1).bnd fun d ρ2 => if acc.length < sizeLine then lcGo tg el cs xs (wipeE ρ2 tg) (acc ++ [d]) else .bad else lcGo tg el cs xs (wipeE ρ1 tg) acc else .bad := rfl
theorem Post.nox_ {α β : Type} {val : Val α β} {K : PySem.W.Frag} {ca : CA} {W : WX} {σ : L2.St} {pu : Bool} {S : Own} {O : List Addr} {H : Hp} {Q : β → Hp → Prop} {r : R α} (h : Post K ca W σ val pu S O H Q r.nox) : Post K ca (fun _ _ _ _ => False) σ val pu S O H Q r := by
  cases r with
  | ok a ρ => exact h
  | ex x ρ => exact h.elim
  | bad => exact h
section
variable {m : Pm} {X : Cx} {W : WX} {c : Ctx} {pos : Pos}
def W0 : WX := fun _ _ _ _ => False
/-- a tree in hand while a comprehension goes on -/
theorem Reps.snoc {K : PySem.W.Frag} {ca : CA} {S : Own} {H : Hp} {vs : List V} {ds : List D} {v : V} {d : D} {A B : List Addr} (r : Reps K ca S H vs ds A) (p : Rep K ca S H v d B) : Reps K ca S H (vs ++ [v]) (ds ++ [d]) (A ++ B) := r.append (Reps.one p)
/-- what is wanted at the end -/
abbrev LcP (K : PySem.W.Frag) (ca : CA) (W : WX) (σ : L2.St) (S0 : Own) (O : List Addr) (H0 : Hp) (Q : V → Hp → Prop) (r : R (List D)) : Prop :=
  Post K ca W σ (fun (ds : List D) (v : V) S H A => Rep K ca S H v (.lst true ds) A) false S0 O H0 Q r.nox
/-- how things stand ahead of a turn -/
structure LcSt (K : PySem.W.Frag) (ca : CA) (W : WX) (σ : L2.St) (tg : List Nat) (el : Ev → R D) (cs : Ev → R Bool) (its : List (List D)) (Fd : Nat → Own → Hp → List Addr → Prop) (S0 : Own) (O : List Addr) (H0 : Hp) (Dd : Addr) (Q : V → Hp → Prop) (i : Nat) (H : Hp) (S : Own) (A1 B1 A2 : List Addr) (ρ : Ev) (vs : List V) (acc : List D) : Prop where
  le : i ≤ its.length
  sub : ∀ a, S0 a → S a
  fr : Fr false S0 O H0 H
  fd : Fd i S H A1
  env : RepE K ca S H (wipe σ tg) ρ B1
  tgs : ∀ j ∈ tg, ρ[j]? = some none ∨ ρ[j]? = none
  new : H Dd = some (.lst vs)
  acc_ : Reps K ca S H vs acc A2
  ow : Ow S H (Dd :: (A2 ++ (B1 ++ (A1 ++ O))))
  post : LcP K ca W σ S0 O H0 Q (lcGo tg el cs (its.drop i) ρ acc)
theorem nox_ok {α β γ : Type} {val : Val β γ} {K : PySem.W.Frag} {ca : CA} {σ : L2.St} {pu : Bool} {S : Own} {O : List Addr} {H : Hp} {Q : γ → Hp → Prop} {r : R α} {k : α → Ev → R β} (h : Post K ca W σ val pu S O H Q (r.bnd k).nox) : ∃ a ρ, r = .ok a ρ ∧ Post K ca W σ val pu S O H Q (k a ρ).nox := by
  cases r with
  | ok a ρ => exact ⟨a, ρ, rfl, h⟩
  | ex x ρ => exact h.elim
  | bad => exact h.elim
/-- an item's values go to the targets -/
theorem itm_tg {K : PySem.W.Frag} {ca : CA} {S : Own} {H : Hp} {tup : Bool} {x : V} {ds : List D} {A : List Addr} {tg : List Nat} (h : Itm K ca tup S H x ds A) (hl : ds.length = tg.length) : ∃ xs, Reps K ca S H xs ds A ∧ xs.length = tg.length ∧ ∀ (σ : L2.St) (k : L2.St → Hp → Prop), k (setAll σ tg xs) H → gT K tup tg x σ H k := by
  cases tup with
  | true =>
    obtain ⟨a, ys, rfl, hq, r⟩ := h
    have e : ys.length = tg.length := r.length.trans hl
    exact ⟨ys, r, e, fun σ k z => ⟨a, ys, rfl, hq, e, z⟩⟩
  | false =>
    obtain ⟨d, rfl, r⟩ := h
    exact ⟨[x], Reps.one r, hl, fun σ k z => ⟨hl.symm, z⟩⟩
theorem rd_lc {el : E} {tg : List Nat} {it : It} {cs : To} {tup : Bool} {σ : L2.St} {H : Hp} {Q : V → Hp → Prop} (q : aE m X W (.lc el tg it cs) σ H Q) :
    tLc (aIt m X W tup it) (gT X.K tup tg) (aTo m X W0 cs) (aO m X W0 el) tg σ H Q := by
  obtain ⟨S, O, ρ, B, hρ, w, hp⟩ := q
  simp only [E.go] at hp
  refine ⟨S, O, ρ, B, hρ, w, (Post.bnd0 (val := vF X.K m.ca (tup)) (pu2 := false) hp).imp fun J H1 ⟨its, ρ1, S1, A1, B1, n⟩ => fun Dd hD => ?_⟩
  obtain ⟨Fd, feed, fd0⟩ := n.v
  have po : LcP X.K m.ca W σ S O H Q (lcGo tg (fun ρ => el.ow m.F ρ) (fun ρ => cs.tst m.F ρ) (its.drop 0) (wipeE ρ1 tg) []) := by
    have h := n.post
    have e : (fun ρ => (el.go m.F ρ).bnd fun d ρ => own el d.1 d.2 ρ) = fun ρ => el.ow m.F ρ := rfl
    rw [e] at h
    show Post _ _ _ _ _ _ _ _ _ _ (R.nox (lcGo tg (fun ρ => el.ow m.F ρ) (fun ρ => cs.tst m.F ρ) its (wipeE ρ1 tg) []))
    cases hr : (lcGo tg (fun ρ => el.ow m.F ρ) (fun ρ => cs.tst m.F ρ) its (wipeE ρ1 tg) []).nox with
    | ok ds ρ' =>
      rw [hr] at h
      exact fun v S' H' A B h1 h2 h3 h4 h5 => h v S' H' A B h1 h2 ⟨A, h3, rfl⟩ h4 h5
    | ex x ρ' => rw [hr] at h; exact h
    | bad => rw [hr] at h; exact h.elim
  refine ⟨fun i mm Hx => mm = its.length - i ∧ ∃ S' A1' B1' A2' ρ' vs acc, LcSt X.K m.ca W σ tg (fun ρ => el.ow m.F ρ) (fun ρ => cs.tst m.F ρ) its Fd S O H Dd Q i Hx S' A1' B1' A2' ρ' vs acc, ⟨_, rfl, ?_⟩, ?_⟩
  · -- the start
    obtain ⟨B2, e1, e2⟩ := n.env.wipe_ tg
    have w1 : Ow S1 H1 (B2 ++ (A1 ++ O)) := n.ow.r1.sub (e2.append (List.Sublist.refl _))
    have fr2 : Fr true S1 (B2 ++ (A1 ++ O)) H1 (upd H1 Dd (.lst [])) := Fr.new w1 hD
    have ho : ∀ a ∈ O, a ∈ B2 ++ (A1 ++ O) := fun a ha => List.mem_append_right _ (List.mem_append_right _ ha)
    have tg0 : ∀ j ∈ tg, (wipeE ρ1 tg)[j]? = some none ∨ (wipeE ρ1 tg)[j]? = none := fun j hj => wipeE_get (.inl hj)
    refine ⟨S1, A1, B2, [], wipeE ρ1 tg, [], [], Nat.zero_le _, n.sub, (n.fr.trans fr2 n.sub ho).weak (by intro z; cases z), ?_, ?_, tg0, upd_same, .nil, w1.new hD, po⟩
    · exact feed.fr _ _ _ _ _ _ fd0 (fun _ z => z) (fun a ha => fr2.st a (.inl ha)) fun a ha => fr2.st a (.inr (List.mem_append_right _ (List.mem_append_left _ ha)))
    · exact (e1.frame (fun _ z => z) (fun a ha => fr2.st a (.inl ha)) fun a ha => fr2.st a (.inr (List.mem_append_left _ ha))).toWipe tg0
  · rintro i mm Hx ⟨rfl, S', A1', B1', A2', ρ', vs, acc, st⟩
    by_cases hend : i = its.length
    · -- the end
      subst hend
      refine .inl ⟨feed.stop _ _ _ st.fd, ?_⟩
      have p1 := st.post
      rw [List.drop_length] at p1
      refine p1 (.ref Dd) S' Hx (Dd :: A2') B1' st.sub st.fr (.lstO st.new st.acc_) (st.env.unWipe st.tgs) ?_
      refine st.ow.sub ?_
      rw [List.append_assoc]
      exact ((List.Sublist.refl _).append ((List.Sublist.refl _).append (List.sublist_append_right _ _))).cons_cons Dd
    · -- a turn
      have hlt : i < its.length := Nat.lt_of_le_of_ne st.le hend
      have eds : its[i]? = some its[i] := List.getElem?_eq_getElem hlt
      have w0 : Ow S' Hx (A1' ++ (Dd :: (A2' ++ (B1' ++ O)))) := st.ow.perm (by
        refine List.Perm.trans ?_ (List.Perm.refl _)
        refine (List.perm_append_comm_assoc A1' [Dd] (A2' ++ (B1' ++ O))).trans ?_
        refine List.Perm.cons Dd ((List.perm_append_comm_assoc A1' A2' (B1' ++ O)).trans (List.Perm.append_left A2' ?_))
        exact List.perm_append_comm_assoc A1' B1' O)
      obtain ⟨hgo, hyld⟩ := feed.go i its[i] S' Hx A1' _ eds st.fd w0
      refine .inr ⟨hgo, fun Hy => ∃ S' A1' B1' A2' ρ' vs acc, LcSt X.K m.ca W σ tg (fun ρ => el.ow m.F ρ) (fun ρ => cs.tst m.F ρ) its Fd S O H Dd Q (i + 1) Hy S' A1' B1' A2' ρ' vs acc, fun Hy hy => ⟨_, by omega, rfl, hy⟩, fun x H' hy => ?_⟩
      obtain ⟨S2, Ai, A1n, s2, ext, itm, fd2, w2⟩ := hyld x H' hy
      have p1 := st.post
      rw [List.drop_eq_getElem_cons hlt] at p1
      unfold LcP at p1
      rw [lcGo_some] at p1
      split at p1
      · rename_i hlen
        obtain ⟨xs, rxs, hxl, hg⟩ := itm_tg itm hlen.1
        obtain ⟨b, ρ3, ecs, p2⟩ := nox_ok p1
        refine hg _ _ ⟨wipe_setAll.trans wipe_wipe, ?_⟩
        -- everything old stands
        have same : ∀ a, (∃ o, Hx a = some o) → H' a = Hx a := fun a ⟨o, e⟩ => by rw [ext a o e, e]
        have sameL : ∀ a ∈ Dd :: (A2' ++ (B1' ++ (A1' ++ O))), H' a = Hx a := fun a ha => same a (st.ow.own a ha).2
        have sameS : ∀ a, S' a → H' a = Hx a := fun a ha => same a (st.ow.com a ha)
        have inB : ∀ a ∈ B1', a ∈ Dd :: (A2' ++ (B1' ++ (A1' ++ O))) := fun a ha => List.mem_cons_of_mem _ (List.mem_append_right _ (List.mem_append_left _ ha))
        have inA2 : ∀ a ∈ A2', a ∈ Dd :: (A2' ++ (B1' ++ (A1' ++ O))) := fun a ha => List.mem_cons_of_mem _ (List.mem_append_left _ ha)
        have inO : ∀ a ∈ O, a ∈ Dd :: (A2' ++ (B1' ++ (A1' ++ O))) := fun a ha => List.mem_cons_of_mem _ (List.mem_append_right _ (List.mem_append_right _ (List.mem_append_right _ ha)))
        have env2 : RepE X.K m.ca S2 H' (wipe σ tg) ρ' B1' := st.env.frame s2 sameS fun a ha => sameL a (inB a ha)
        have acc2 : Reps X.K m.ca S2 H' vs acc A2' := st.acc_.frame s2 sameS fun a ha => sameL a (inA2 a ha)
        have new2 : H' Dd = some (.lst vs) := (sameL Dd List.mem_cons_self).trans st.new
        have fr2 : Fr false S O H H' := ⟨fun a ha => by
          have : Hx a = H a := st.fr.st a ha
          rw [← this]
          rcases ha with ha | ha
          · exact sameS a (st.sub a ha)
          · exact sameL a (inO a ha), fun z => by cases z⟩
        have htl : ∀ j ∈ tg, j < (wipe σ tg).length := fun j hj => by
          have h1 := List.all_eq_true.mp hlen.2 j hj
          rw [st.env.length]
          exact of_decide_eq_true h1
        obtain ⟨B3, env3, Z, z1, z2⟩ := env2.putAll rxs htl hxl
        have w3 : Ow S2 H' (B3 ++ ((Dd :: A2') ++ (A1n ++ O))) := by
          have e1 : (Ai ++ B1' ++ ((Dd :: A2') ++ (A1n ++ O))).Perm (Ai ++ (A1n ++ (Dd :: (A2' ++ (B1' ++ O))))) := by
            rw [List.append_assoc]
            refine List.Perm.append_left Ai ?_
            have h1 : (B1' ++ ((Dd :: A2') ++ (A1n ++ O))).Perm ((Dd :: A2') ++ (A1n ++ (B1' ++ O))) := (List.perm_append_comm_assoc B1' (Dd :: A2') (A1n ++ O)).trans (List.Perm.append_left _ (List.perm_append_comm_assoc B1' A1n O))
            refine h1.trans ((List.perm_append_comm_assoc (Dd :: A2') A1n (B1' ++ O)).trans ?_)
            exact List.Perm.refl _
          have w3' := w2.perm e1
          exact (w3'.sub (z1.append (List.Sublist.refl _))).perm (z2.append_right _)
        have go : ∀ {S4 : Own} {H4 : Hp} {ρ4 : Ev} {B4 : List Addr}, (∀ a, S2 a → S4 a) → Fr false S2 ((Dd :: A2') ++ (A1n ++ O)) H' H4 → RepE X.K m.ca S4 H4 (setAll (wipe σ tg) tg xs) ρ4 B4 → 
            (∀ a, S a → S4 a) ∧ Fr false S O H H4 ∧ Fd (i + 1) S4 H4 A1n ∧ H4 Dd = some (.lst vs) ∧ Reps X.K m.ca S4 H4 vs acc A2' ∧ ∃ B5, List.Sublist B5 B4 ∧ RepE X.K m.ca S4 H4 (wipe σ tg) (wipeE ρ4 tg) B5 := by
          intro S4 H4 ρ4 B4 h1 h2 h3
          obtain ⟨B5, k1, k2⟩ := h3.wipe_ tg
          have k3 := k1.toWipe (tg := tg) fun j hj => wipeE_get (.inl hj)
          rw [wipe_setAll, wipe_wipe] at k3
          refine ⟨fun a ha => h1 a (s2 a (st.sub a ha)), (fr2.trans h2 (fun a ha => s2 a (st.sub a ha)) fun a ha => List.mem_append_right _ (List.mem_append_right _ ha)).weak (by intro z; cases z), ?_, ?_, ?_, B5, k2, k3⟩
          · exact feed.fr _ _ _ _ _ _ fd2 h1 (fun a ha => h2.st a (.inl ha)) fun a ha => h2.st a (.inr (List.mem_append_right _ (List.mem_append_left _ ha)))
          · exact (h2.st Dd (.inr List.mem_cons_self)).trans new2
          · exact acc2.frame h1 (fun a ha => h2.st a (.inl ha)) fun a ha => h2.st a (.inr (List.mem_cons_of_mem _ (List.mem_append_left _ ha)))
        refine ⟨S2, (Dd :: A2') ++ (A1n ++ O), putE ρ' tg its[i], B3, env3, w3, ?_⟩
        show Post _ _ _ _ _ _ _ _ _ _ (cs.tst m.F (putE ρ' tg its[i]))
        rw [ecs]
        rintro b' S3 H3 Ax B4 h1 h2 ⟨rfl, rfl⟩ env4 w4
        have p2 : LcP X.K m.ca W σ S O H Q (if b' = true then (el.ow m.F ρ3).bnd fun d ρ2 => if acc.length < sizeLine then lcGo tg (fun ρ => el.ow m.F ρ) (fun ρ => cs.tst m.F ρ) (its.drop (i + 1)) (wipeE ρ2 tg) (acc ++ [d]) else .bad else lcGo tg (fun ρ => el.ow m.F ρ) (fun ρ => cs.tst m.F ρ) (its.drop (i + 1)) (wipeE ρ3 tg) acc) := p2
        cases b' with
        | false =>
          rw [if_neg (by simp)] at p2 ⊢
          obtain ⟨g1, g2, g3, g4, g5, B5, g6, g7⟩ := go h1 h2 env4
          refine ⟨S3, A1n, B5, A2', wipeE ρ3 tg, vs, acc, hlt, g1, g2, g3, g7, fun j hj => wipeE_get (.inl hj), g4, g5, ?_, p2⟩
          have w5 : Ow S3 H3 (B5 ++ ((Dd :: A2') ++ (A1n ++ O))) := w4.sub (g6.append (List.Sublist.refl _))
          exact w5.perm ((List.perm_append_comm_assoc (Dd :: A2') B5 (A1n ++ O)))
        | true =>
          rw [if_pos rfl] at p2 ⊢
          obtain ⟨d, ρ5, eel, p3⟩ := nox_ok p2
          split at p3
          · rename_i hsz
            refine ⟨S3, (Dd :: A2') ++ (A1n ++ O), ρ3, B4, env4, w4, ?_⟩
            show Post _ _ _ _ _ _ _ _ _ _ (el.ow m.F ρ3)
            rw [eel]
            intro y S5 H5 A5 B5 k1 k2 k3 k4 k5
            obtain ⟨g1, g2, g3, g4, g5, B6, g6, g7⟩ := go (fun a ha => k1 a (h1 a ha)) ((h2.trans k2 h1 fun a ha => ha).weak (by intro z; cases z)) k4
            refine ⟨vs, g4, by rw [g5.length]; exact hsz, ?_⟩
            have w5 : Ow S5 H5 (A5 ++ B6 ++ ((Dd :: A2') ++ (A1n ++ O))) := k5.sub (((List.Sublist.refl _).append g6).append (List.Sublist.refl _))
            have w6 : Ow S5 H5 (Dd :: ((A2' ++ A5) ++ (B6 ++ (A1n ++ O)))) := w5.perm (by
              rw [List.append_assoc A5, ]
              have h1 : (Dd :: (A2' ++ A5 ++ (B6 ++ (A1n ++ O)))) = (Dd :: A2') ++ (A5 ++ (B6 ++ (A1n ++ O))) := by simp
              rw [h1]
              refine (List.perm_append_comm_assoc (Dd :: A2') A5 _).trans (List.Perm.append_left A5 ?_)
              exact List.perm_append_comm_assoc (Dd :: A2') B6 _)
            have nS : ∀ a, S5 a → upd H5 Dd (.lst (vs ++ [y])) a = H5 a := fun a ha => upd_ne fun z => (w6.own Dd List.mem_cons_self).1 (z ▸ ha)
            have nL : ∀ a ∈ (A2' ++ A5) ++ (B6 ++ (A1n ++ O)), upd H5 Dd (.lst (vs ++ [y])) a = H5 a := fun a ha => upd_ne fun z => (List.nodup_cons.mp w6.nd).1 (z ▸ ha)
            refine ⟨S5, A1n, B6, A2' ++ A5, wipeE ρ5 tg, vs ++ [y], acc ++ [d], hlt, g1, ?_, ?_, ?_, fun j hj => wipeE_get (.inl hj), upd_same, ?_, w6.wr List.mem_cons_self, p3⟩
            · refine ⟨fun a ha => Eq.trans ?_ (g2.st a ha), fun z => by cases z⟩
              rcases ha with ha | ha
              · exact nS a (g1 a ha)
              · exact nL a (List.mem_append_right _ (List.mem_append_right _ (List.mem_append_right _ ha)))
            · exact feed.fr _ _ _ _ _ _ g3 (fun _ z => z) nS fun a ha => nL a (List.mem_append_right _ (List.mem_append_right _ (List.mem_append_left _ ha)))
            · exact g7.frame (fun _ z => z) nS fun a ha => nL a (List.mem_append_right _ (List.mem_append_left _ ha))
            · exact (g5.snoc k3).frame (fun _ z => z) nS fun a ha => nL a (List.mem_append_left _ ha)
          · exact p3.elim
      · exact p1.elim
theorem ownOf_map {N : List Str} {tg : List Nat} : (ownOf N tg).map (·.2) = tg := by
  unfold ownOf
  rw [List.map_map]
  exact List.map_id' tg
theorem s_lc (hx : CtxOk m c X W) {el : E} {tg : List Nat} {it : It} {cs : To} {a t i : Expr} {ifs : List Expr} {scope : Scope}
    (hb : blkC X.N X.env.scope scope (ownOf X.N tg) = true) (ht : mTg (relC scope c) tg t = true) (hi : PI X t i (aIt m X W (isTupE t) it))
    (hfs : ∀ x, foldedSetIterable i X.env x = pure x)
    (hcs : ∀ X', CtxOk m (relC scope c) X' W0 → X'.K = X.K → PTs X' ifs (aTo m X' W0 cs)) (hel : ∀ X', CtxOk m (relC scope c) X' W0 → X'.K = X.K → PE X' a (aO m X' W0 el)) (hblk : ∀ s H C cl fp, CtxOk m (relC scope c) (X.blk s H scope (compEnvC scope cl C X.env) fp) W0) :
    PE X (.ListComp a [⟨t, i, ifs, 0⟩] scope pos) (aE m X W (.lc el tg it cs)) :=
  PE.imp (pe_lc (own := ownOf X.N tg) (g := gT X.K (isTupE t) tg) (tt := aTo m X W0 cs) (te := aO m X W0 el) hx.calm hx.nd hi (blkOk_by hb)
    (fun s H C cl fp => pg_of (hblk s H C cl fp).st ht) (fun s H C cl fp => hcs _ (hblk s H C cl fp) rfl) (fun s H C cl fp => hel _ (hblk s H C cl fp) rfl) hfs) fun σ H Q q => by
      rw [ownOf_map]
      exact rd_lc q
/-- a new list's name on the comprehension's own line -/
theorem s_setLc (hx : CtxOk m c X W) {el : E} {tg : List Nat} {it : It} {cs : To} {a t i : Expr} {ifs : List Expr} {scope : Scope} {k : Nat} {y : Str} {py spos : Pos}
    (hb : blkC X.N X.env.scope scope (ownOf X.N tg) = true) (ht : mTg (relC scope c) tg t = true) (hi : PI X t i (aIt m X W (isTupE t) it))
    (hfs : ∀ x, foldedSetIterable i X.env x = pure x)
    (hcs : ∀ X', CtxOk m (relC scope c) X' W0 → X'.K = X.K → PTs X' ifs (aTo m X' W0 cs)) (hel : ∀ X', CtxOk m (relC scope c) X' W0 → X'.K = X.K → PE X' a (aO m X' W0 el)) (hblk : ∀ s H C cl fp, CtxOk m (relC scope c) (X.blk s H scope (compEnvC scope cl C X.env) fp) W0)
    (hy : X.N[k]? = some y) (hyl : X.env.scope.names.lookup y = some .local) (hsw : swapsWith (.ListComp a [⟨t, i, ifs, 0⟩] scope pos) (some (.Name y py)) spos.line X.env = pure true) :
    PS X (.Assign [.Name y py] (.ListComp a [⟨t, i, ifs, 0⟩] scope pos) spos) (tAsg (aE m X W (.lc el tg it cs)) (gName k)) :=
  PS.imp (ps_setLc (own := ownOf X.N tg) (g := gT X.K (isTupE t) tg) (tt := aTo m X W0 cs) (te := aO m X W0 el) hx.calm hx.nd hy hyl hsw hi (blkOk_by hb)
    (fun s H C cl fp => pg_of (hblk s H C cl fp).st ht) (fun s H C cl fp => hcs _ (hblk s H C cl fp) rfl) (fun s H C cl fp => hel _ (hblk s H C cl fp) rfl) hfs) fun D σ H q => by
      rw [ownOf_map]
      exact rd_lc q
end
end Hm
end
section
set_option Elab.async false
set_option linter.all false
set_option maxRecDepth 100000
/-! All expressions. -/
namespace Hm
open PySem PySem.Spec PyProof.Rows L2
section
variable {m : Pm}
theorem CtxOk.blk {c : Ctx} {X : Cx} {W : WX} (h : CtxOk m c X W) {scope : Scope} {s : Shared} {H : Hp} {C : Addr} {cl : List (Str × Addr)} {fp : List Addr} : CtxOk m (relC scope c) (X.blk s H scope (compEnvC scope cl C X.env) fp) W0 where
  ok := h.ok
  N := h.N
  nd := h.nd
  sc := by
    show (compEnvC scope cl C X.env).scope = relS scope c.sc
    rw [← h.sc]
    rfl
  fn := rfl
  calm := h.calm
  room := h.room
  tk := fun u s' ⟨_, _, _, _, _, _, _, _, _, _, _, _, _, _, _, _, w⟩ => w.elim
theorem foldedSet_of {i : Expr} (h : notSet i = true) (env : Env) (x : Value) : foldedSetIterable i env x = pure x := by
  cases i <;> first | rfl | (simp [notSet] at h)
theorem pe_nev {X : Cx} {W : WX} {a : Expr} : PE X a (aE m X W .nev) := ⟨fun pins s σ H Q I ⟨S, O, ρ, B, hρ, w, hp⟩ => False.elim hp⟩
def isBo : Expr → Bool
  | .BoolOp _ _ _ => true
  | _ => false
theorem PTs.imp {X : Cx} {l : List Expr} {t t' : TT} (h : PTs X l t) (k : ∀ σ H Q, t' σ H Q → t σ H Q) : PTs X l t' := ⟨fun pins s σ H Q I q => h.run pins s σ H Q I (k _ _ _ q)⟩
/-- owned, from the plain use -/
theorem own_of {c : Ctx} {X : Cx} {W : WX} (hx : CtxOk m c X W) {e : E} {a : Expr} (h : mE m.t e c a = true) (ha : PE X a (aE m X W e)) : PE X a (aO m X W e) := by
  cases hv : e.isV with
  | false => exact s_own hv ha
  | true =>
    cases e <;> first | (simp [E.isV] at hv; done) | skip
    simp only [mE] at h
    split at h
    · exact s_vo hx h
    · cases h
theorem noSts_of {es : Es} {c : Ctx} : ∀ {l : List Expr}, mEs m.t es c l = true → noSts l = true ∧ es.len = l.length := by
  induction es using Es.rec (motive_1 := fun _ => True) (motive_2 := fun _ => True) (motive_4 := fun _ => True) (motive_5 := fun _ => True) (motive_6 := fun _ => True) <;> first | trivial | skip
  · intro l h
    cases l with
    | nil => exact ⟨rfl, rfl⟩
    | cons a l => simp [mEs] at h
  · rename_i e r _ ih
    intro l h
    cases l with
    | nil => simp [mEs] at h
    | cons a l =>
      simp only [mEs, Bool.and_eq_true] at h
      obtain ⟨h1, h2⟩ := ih h.2.2
      exact ⟨by simp only [noSts, Bool.and_eq_true]; exact ⟨h.1, h1⟩, by show r.len + 1 = _; rw [h2]; rfl⟩
mutual
theorem sndE : ∀ (e : E) {c : Ctx} {X : Cx} {W : WX} {a : Expr}, CtxOk m c X W → mE m.t e c a = true → PE X a (aE m X W e)
  | .c k, c, X, W, a, hx, h => by
    simp only [mE] at h
    split at h
    · exact s_c h
    · cases h
  | .g x k, c, X, W, a, hx, h => by
    simp only [mE] at h
    split at h
    · simp only [Bool.and_eq_true, decide_eq_true_eq] at h
      obtain ⟨rfl, h1, h2⟩ := h
      exact s_g hx h1 h2
    · cases h
  | .v i, c, X, W, a, hx, h => by
    simp only [mE] at h
    split at h
    · exact s_v hx h
    · cases h
  | .mv i, c, X, W, a, hx, h => by
    simp only [mE] at h
    split at h
    · exact s_mv hx h
    · cases h
  | .u o x, c, X, W, a, hx, h => by
    simp only [mE] at h
    split at h
    · simp only [Bool.and_eq_true, decide_eq_true_eq] at h
      obtain ⟨rfl, h⟩ := h
      exact s_neg (sndE x hx h)
    · split at h
      · simp only [Bool.and_eq_true, decide_eq_true_eq] at h
        obtain ⟨rfl, h1, h2, h3, h4, h5⟩ := h
        exact s_isi1 hx h1 h2 h3 (sndE x hx h4) h5
      · simp only [Bool.and_eq_true, decide_eq_true_eq, Bool.not_eq_true'] at h
        obtain ⟨rfl, h1, h2, h3, h4, h5, h6⟩ := h
        exact s_isiT hx h1 h4 h3 h2 (sndE x hx h5) h6
      · simp only [Bool.and_eq_true, decide_eq_true_eq] at h
        obtain ⟨rfl, h1, rfl, h2, h3, h4⟩ := h
        exact s_sset hx h1 h2 h3 (sndE x hx h4)
      · split at h
        · rename_i hf
          simp only [Bool.and_eq_true, decide_eq_true_eq] at h
          obtain ⟨rfl, h1, h2, h3⟩ := h
          exact s_fn hx hf h1 h2 (sndE x hx h3)
        · cases h
      · cases h
    · simp only [Bool.and_eq_true, decide_eq_true_eq] at h
      obtain ⟨rfl, rfl, h⟩ := h
      exact s_rev (sndE x hx h)
    · cases h
  | .b o x y, c, X, W, a, hx, h => by
    simp only [mE] at h
    split at h
    · simp only [Bool.and_eq_true, decide_eq_true_eq] at h
      exact s_op h.1 (sndE x hx h.2.1) (sndE y hx h.2.2)
    · simp only [Bool.and_eq_true, decide_eq_true_eq, Bool.not_eq_true'] at h
      exact s_cmp hx h.1 h.2.1 (sndE x hx h.2.2.1) (sndE y hx h.2.2.2)
    · split at h
      · rename_i hf
        simp only [Bool.and_eq_true, decide_eq_true_eq] at h
        obtain ⟨rfl, h1, h2, h3, h4, h5⟩ := h
        exact s_f2 hx hf h1 h2 h3 (sndE x hx h4) (sndE y hx h5)
      · cases h
    · cases h
  | .ix x y, c, X, W, a, hx, h => by
    simp only [mE] at h
    split at h
    · simp only [Bool.and_eq_true] at h
      exact s_ix hx h.1 (sndE x hx h.2.1) (sndE y hx h.2.2)
    · cases h
  | .sl x lo hi, c, X, W, a, hx, h => by
    simp only [mE] at h
    split at h
    · simp only [Bool.and_eq_true] at h
      exact s_sl (sndE x hx h.1) (sndEo lo hx h.2.1) (sndEo hi hx h.2.2)
    · cases h
  | .ch o p x y z, c, X, W, a, hx, h => by
    simp only [mE] at h
    split at h
    · simp only [Bool.and_eq_true, decide_eq_true_eq, Bool.not_eq_true'] at h
      obtain ⟨h1, h2, h3, h4, h5, h6⟩ := h
      exact s_ch hx h1 h2 h3 (sndE x hx h4) (sndE y hx h5) (sndE z hx h6)
    · cases h
  | .tb t, c, X, W, a, hx, h => by
    simp only [mE, Bool.and_eq_true] at h
    exact s_tb (sndV t hx h.2)
  | .ife k x y, c, X, W, a, hx, h => by
    simp only [mE] at h
    split at h
    · simp only [Bool.and_eq_true] at h
      exact s_ife (sndT k hx h.1).1 (sndE x hx h.2.1) (sndE y hx h.2.2)
    · cases h
  | .tup es, c, X, W, a, hx, h => by
    simp only [mE] at h
    split at h
    · exact s_tup (sndEs es hx h)
    · cases h
  | .lst es, c, X, W, a, hx, h => by
    simp only [mE] at h
    split at h
    · rename_i l _
      cases es with
      | nil =>
        cases l with
        | nil => exact s_lst0
        | cons _ _ => cases h
      | cons e r => exact s_lst (sndEs (.cons e r) hx h)
    · cases h
  | .call f es, c, X, W, a, hx, h => by
    simp only [mE] at h
    split at h
    · simp only [Bool.and_eq_true, decide_eq_true_eq] at h
      obtain ⟨h1, h2, h3⟩ := h
      obtain ⟨q1, q2⟩ := noSts_of h3
      simp only [noSts, Bool.and_eq_true] at q1
      exact s_call hx h1 h2 q2 q1.1 q1.2 (sndAs es hx h3)
    · cases h
  | .io i, c, X, W, a, hx, h => ⟨fun pins s σ H Q I ⟨S, O, ρ, B, hρ, w, hp⟩ => False.elim hp⟩
  | .ln i, c, X, W, a, hx, h => ⟨fun pins s σ H Q I ⟨S, O, ρ, B, hρ, w, hp⟩ => False.elim hp⟩
  | .idx x y, c, X, W, a, hx, h => by
    simp only [mE] at h
    split at h
    · simp only [Bool.and_eq_true, decide_eq_true_eq] at h
      obtain ⟨rfl, h1, h2, h3, h4, h5⟩ := h
      exact s_idx h1 h3 h2 (sndE x hx h4) (sndE y hx h5)
    · cases h
  | .lc el tg it cs, c, X, W, a, hx, h => by
    simp only [mE] at h
    split at h
    · simp only [Bool.and_eq_true] at h
      obtain ⟨h1, h2, h3, h4, h5, h6⟩ := h
      rw [← hx.N, ← hx.sc] at h2
      exact s_lc hx (by rw [hx.N] at h2 ⊢; exact h2) h3 (sndIt it hx h4) (foldedSet_of h1 _) (fun X' hx' hK => sndTo cs hx' h5) (fun X' hx' hK => own_of hx' h6 (sndE el hx' h6)) fun s H C cl fp => hx.blk
    · cases h
  | .dE, c, X, W, a, hx, h => by
    simp only [mE] at h
    split at h
    · exact s_dE
    · cases h
  | .sv i, c, X, W, a, hx, h => by
    simp only [mE] at h
    split at h
    · exact s_sv hx h
    · cases h
  | .lr e, c, X, W, a, hx, h => by
    simp only [mE] at h
    split at h
    · simp only [Bool.and_eq_true, decide_eq_true_eq] at h
      obtain ⟨rfl, h1, rfl, h2, h3, h4⟩ := h
      exact s_lr hx h1 h2 h3 (sndE e hx h4)
    · cases h
  | .nev, c, X, W, a, hx, h => pe_nev
theorem sndEo : ∀ (e : Eo) {c : Ctx} {X : Cx} {W : WX} {a : Option Expr}, CtxOk m c X W → mEo m.t e c a = true → PO X a (aEo m X W e)
  | .no, c, X, W, none, hx, h => s_eo_no
  | .no, c, X, W, some a, hx, h => by simp [mEo] at h
  | .yes e, c, X, W, some a, hx, h => s_eo_yes (sndE e hx (by simpa only [mEo] using h))
  | .yes e, c, X, W, none, hx, h => by simp [mEo] at h
theorem sndEs : ∀ (e : Es) {c : Ctx} {X : Cx} {W : WX} {a : List Expr}, CtxOk m c X W → mEs m.t e c a = true → PA X a (aEs m X W e)
  | .nil, c, X, W, [], hx, h => s_es_nil
  | .nil, c, X, W, _ :: _, hx, h => by simp [mEs] at h
  | .cons e r, c, X, W, [], hx, h => by simp [mEs] at h
  | .cons e r, c, X, W, a :: l, hx, h => by
    simp only [mEs, Bool.and_eq_true] at h
    exact s_es_cons h.1 (own_of hx h.2.1 (sndE e hx h.2.1)) (sndEs r hx h.2.2)
theorem sndAs : ∀ (e : Es) {c : Ctx} {X : Cx} {W : WX} {a : List Expr}, CtxOk m c X W → mEs m.t e c a = true → PA X a (aAs m X W e)
  | .nil, c, X, W, [], hx, h => s_as_nil
  | .nil, c, X, W, _ :: _, hx, h => by simp [mEs] at h
  | .cons e r, c, X, W, [], hx, h => by simp [mEs] at h
  | .cons e r, c, X, W, a :: l, hx, h => by
    simp only [mEs, Bool.and_eq_true] at h
    have hr := sndAs r hx h.2.2
    have he := sndE e hx h.2.1
    cases ha : e.isA with
    | false => exact s_as_d ha h.1 (own_of hx h.2.1 he) hr
    | true =>
      cases e <;> first | (simp [E.isA] at ha; done) | skip
      · have h2 := h.2.1
        simp only [mE] at h2
        split at h2
        · exact s_as_io hx h2 hr
        · cases h2
      · have h2 := h.2.1
        simp only [mE] at h2
        split at h2
        · exact s_as_ln hx h2 hr
        · cases h2
theorem sndT : ∀ (t : T) {c : Ctx} {X : Cx} {W : WX} {a : Expr}, CtxOk m c X W → mT m.t t c a = true → PT X a (aT m X W t) ∧ (isBo a = true → PW X a (aT m X W t))
  | .e e, c, X, W, a, hx, h => by
    simp only [mT] at h
    split at h
    · refine ⟨?_, fun z => by cases z⟩
      simp only [Bool.and_eq_true] at h
      obtain ⟨h1, h2⟩ := h
      cases e <;> first | (simp at h1; done) | skip
      · rename_i o x y
        simp only [mE] at h2
        split at h2
        · cases ‹Expr.Compare _ _ _ _ = _›
        · rename_i q
          cases q
          simp only [Bool.and_eq_true, decide_eq_true_eq, Bool.not_eq_true'] at h2
          exact t_cmp hx h2.1 h2.2.1 (sndE x hx h2.2.2.1) (sndE y hx h2.2.2.2)
        · cases ‹Expr.Compare _ _ _ _ = _›
        · cases h2
      · rename_i o p x y z
        simp only [mE] at h2
        split at h2
        · rename_i q
          cases q
          simp only [Bool.and_eq_true, decide_eq_true_eq, Bool.not_eq_true'] at h2
          obtain ⟨h1, h2, h3, h4, h5, h6⟩ := h2
          exact t_ch hx h1 h2 h3 (sndE x hx h4) (sndE y hx h5) (sndE z hx h6)
        · cases h2
    · simp only [Bool.and_eq_true] at h
      refine ⟨t_plain h.1 (sndE e hx h.2), fun z => ?_⟩
      cases a <;> first | (simp [isBo] at z; done) | (simp [plainT] at h)
  | .one x, c, X, W, a, hx, h => by
    simp only [mT] at h
    split at h
    · rename_i op b p
      have q := (sndT x hx h).1
      have w : PW X (.BoolOp op [b] p) (aT m X W x) := by
        cases op
        · exact pw_and1 q
        · exact pw_or1 q
      exact ⟨w.pt, fun _ => w⟩
    · cases h
  | .an x y, c, X, W, a, hx, h => by
    simp only [mT] at h
    split at h
    · simp only [Bool.and_eq_true] at h
      have w := pw_and (sndT x hx h.1).1 ((sndT y hx h.2).2 rfl)
      have w2 : PW X _ (aT m X W (.an x y)) := PW.imp w fun σ H Q q => tAnd_of q
      exact ⟨w2.pt, fun _ => w2⟩
    · cases h
  | .or x y, c, X, W, a, hx, h => by
    simp only [mT] at h
    split at h
    · simp only [Bool.and_eq_true] at h
      have w := pw_or (sndT x hx h.1).1 ((sndT y hx h.2).2 rfl)
      have w2 : PW X _ (aT m X W (.or x y)) := PW.imp w fun σ H Q q => tOr_of q
      exact ⟨w2.pt, fun _ => w2⟩
    · cases h
  | .nt x, c, X, W, a, hx, h => by
    simp only [mT] at h
    split at h
    · exact ⟨PT.imp (pt_not (sndT x hx h).1) fun σ H Q q => tNot_of q, fun z => by cases z⟩
    · cases h
theorem sndV : ∀ (t : T) {c : Ctx} {X : Cx} {W : WX} {a : Expr}, CtxOk m c X W → mT m.t t c a = true → PE X a (aV m X W t)
  | .e e, c, X, W, a, hx, h => by
    simp only [mT] at h
    split at h
    · simp only [Bool.and_eq_true] at h
      exact v_e (sndE e hx h.2)
    · simp only [Bool.and_eq_true] at h
      exact v_e (sndE e hx h.2)
  | .one x, c, X, W, a, hx, h => by
    simp only [mT] at h
    split at h
    · exact pe_one (sndV x hx h)
    · cases h
  | .an x y, c, X, W, a, hx, h => by
    simp only [mT] at h
    split at h
    · simp only [Bool.and_eq_true] at h
      exact PE.imp (pe_and (sndV x hx h.1) (sndV y hx h.2)) fun σ H Q q => vAnd_of q
    · cases h
  | .or x y, c, X, W, a, hx, h => by
    simp only [mT] at h
    split at h
    · simp only [Bool.and_eq_true] at h
      exact PE.imp (pe_or (sndV x hx h.1) (sndV y hx h.2)) fun σ H Q q => vOr_of q
    · cases h
  | .nt x, c, X, W, a, hx, h => by
    simp only [mT] at h
    split at h
    · exact PE.imp (pe_not (sndV x hx h)) fun σ H Q q => vNot_of q
    · cases h
theorem sndTo : ∀ (t : To) {c : Ctx} {X : Cx} {W : WX} {a : List Expr}, CtxOk m c X W → mTo m.t t c a = true → PTs X a (aTo m X W t)
  | .no, c, X, W, [], hx, h => PTs.imp pts_nil fun σ H Q ⟨S, O, ρ, B, hρ, w, hp⟩ => hp true S H [] B (fun _ z => z) Fr.refl ⟨rfl, rfl⟩ hρ (by simpa using w)
  | .no, c, X, W, _ :: _, hx, h => by simp [mTo] at h
  | .yes t, c, X, W, [a], hx, h => pts_one (sndT t hx (by simpa only [mTo] using h)).1
  | .yes t, c, X, W, [], hx, h => by simp [mTo] at h
  | .yes t, c, X, W, _ :: _ :: _, hx, h => by simp [mTo] at h
theorem sndIt : ∀ (it : It) {c : Ctx} {X : Cx} {W : WX} {g a : Expr}, CtxOk m c X W → mIt m.t it c g a = true → PI X g a (aIt m X W (isTupE g) it)
  | .seq e, c, X, W, g, a, hx, h => by
    simp only [mIt] at h
    split at h
    · exact i_seq (own_of hx h (sndE e hx h))
    · cases h
  | .seqT e, c, X, W, g, a, hx, h => by
    simp only [mIt] at h
    split at h
    · exact i_seqT (own_of hx h (sndE e hx h))
    · cases h
  | .scr e, c, X, W, g, a, hx, h => by
    simp only [mIt] at h
    split at h
    · exact i_scr (sndE e hx h)
    · cases h
  | .rng e, c, X, W, g, a, hx, h => by
    simp only [mIt] at h
    split at h
    · simp only [Bool.and_eq_true, decide_eq_true_eq] at h
      obtain ⟨rfl, h1, h2, h3⟩ := h
      exact i_rng hx h1 h2 (sndE e hx h3)
    · cases h
  | .rng2 e k, c, X, W, g, a, hx, h => by
    simp only [mIt] at h
    split at h
    · simp only [Bool.and_eq_true, decide_eq_true_eq] at h
      obtain ⟨rfl, h1, h2, h3, h4, h5⟩ := h
      exact i_rng2 hx h1 h2 h3 (sndE e hx h4) (sndE k hx h5)
    · cases h
  | .enum e, c, X, W, g, a, hx, h => by
    simp only [mIt] at h
    split at h
    · split at h
      · simp only [Bool.and_eq_true, decide_eq_true_eq] at h
        obtain ⟨rfl, h1, h2, h3⟩ := h
        exact i_enum hx h1 h2 (own_of hx h3 (sndE e hx h3))
      · cases h
    · cases h
end
end
end Hm
end
section
set_option Elab.async false
set_option linter.all false
set_option maxRecDepth 100000
/-! What a statement's end promises. -/
namespace Hm
open PySem PySem.Spec PyProof.Rows L2
def SameR (ro : List Nat) (σ σ' : L2.St) : Prop := ∀ i ∈ ro, σ'[i]? = σ[i]?
section
variable (K : PySem.W.Frag) (ca : CA) (W : WX) (D : Ends) (ro : List Nat)
def PostS (σ0 : L2.St) (S : Own) (O : List Addr) (H : Hp) : RS → Prop
  | .nx ρ => ∀ σ' S' H' B, (∀ x, S x → S' x) → Fr false S O H H' → SameR ro σ0 σ' → RepE K ca S' H' σ' ρ B → Ow S' H' (B ++ O) → D.nx σ' H'
  | .brk ρ => ∀ σ' S' H' B, (∀ x, S x → S' x) → Fr false S O H H' → SameR ro σ0 σ' → RepE K ca S' H' σ' ρ B → Ow S' H' (B ++ O) → D.bk σ' H'
  | .cnt ρ => ∀ σ' S' H' B, (∀ x, S x → S' x) → Fr false S O H H' → SameR ro σ0 σ' → RepE K ca S' H' σ' ρ B → Ow S' H' (B ++ O) → D.ct σ' H'
  | .ret d ρ => ∀ v σ' S' H' A B, (∀ x, S x → S' x) → Fr false S O H H' → SameR ro σ0 σ' → Rep K ca S' H' v d A → RepE K ca S' H' σ' ρ B → Ow S' H' (A ++ B ++ O) → D.rt v H'
  | .ex x ρ => ∀ cls dd σ' S' H' A B, (∀ x, S x → S' x) → Fr false S O H H' → SameR ro σ0 σ' → RepX K ca S' H' cls dd x A → RepE K ca S' H' σ' ρ B → Ow S' H' (A ++ B ++ O) → W cls dd σ' H'
  | .bad => False
def AskS (f : Ev → RS) : TS := fun D σ H => ∃ S O ρ B, RepE K ca S H σ ρ B ∧ Ow S H (B ++ O) ∧ PostS K ca W D ro σ S O H (f ρ)
end
section
variable {K : PySem.W.Frag} {ca : CA} {W : WX} {D : Ends} {ro : List Nat} {σ σ1 : L2.St} {S S1 : Own} {O O1 : List Addr} {H H1 : Hp} {r : RS}
theorem SameR.refl : SameR ro σ σ := fun _ _ => rfl
theorem SameR.trans {σ2 : L2.St} (h : SameR ro σ σ1) (k : SameR ro σ1 σ2) : SameR ro σ σ2 := fun i hi => (k i hi).trans (h i hi)
theorem SameR.set {i : Nat} {x : Option V} (h : i ∉ ro) : SameR ro σ (σ.set i x) := fun j hj => List.getElem?_set_ne fun e => h (by rw [e]; exact hj)
theorem SameR.setAll {tg : List Nat} {xs : List V} (h : ∀ i ∈ tg, i ∉ ro) : SameR ro σ (setAll σ tg xs) := fun j hj => setAll_get fun e => h j e hj
theorem Fr.tr0 {H2 : Hp} {pu pu' : Bool} (f : Fr pu S O H H1) (g : Fr pu' S1 O1 H1 H2) (hs : ∀ a, S a → S1 a) (ho : ∀ a ∈ O, a ∈ O1) : Fr false S O H H2 := (f.trans g hs ho).weak (by intro z; cases z)
theorem PostS.mono {pu : Bool} (h : PostS K ca W D ro σ S O H r) (hs : ∀ x, S x → S1 x) (fr : Fr pu S O H H1) (sl : List.Sublist O O1) (sm : SameR ro σ σ1) : PostS K ca W D ro σ1 S1 O1 H1 r := by
  have ho : ∀ a ∈ O, a ∈ O1 := fun a ha => sl.subset ha
  cases r with
  | nx ρ => exact fun σ' S' H' B h1 h2 h3 h4 h5 => h σ' S' H' B (fun x z => h1 x (hs x z)) (fr.tr0 h2 hs ho) (sm.trans h3) h4 (h5.sub ((List.Sublist.refl _).append sl))
  | brk ρ => exact fun σ' S' H' B h1 h2 h3 h4 h5 => h σ' S' H' B (fun x z => h1 x (hs x z)) (fr.tr0 h2 hs ho) (sm.trans h3) h4 (h5.sub ((List.Sublist.refl _).append sl))
  | cnt ρ => exact fun σ' S' H' B h1 h2 h3 h4 h5 => h σ' S' H' B (fun x z => h1 x (hs x z)) (fr.tr0 h2 hs ho) (sm.trans h3) h4 (h5.sub ((List.Sublist.refl _).append sl))
  | ret d ρ => exact fun v σ' S' H' A B h1 h2 h3 h4 h5 h6 => h v σ' S' H' A B (fun x z => h1 x (hs x z)) (fr.tr0 h2 hs ho) (sm.trans h3) h4 h5 (h6.sub ((List.Sublist.refl _).append sl))
  | ex x ρ => exact fun cls dd σ' S' H' A B h1 h2 h3 h4 h5 h6 => h cls dd σ' S' H' A B (fun x z => h1 x (hs x z)) (fr.tr0 h2 hs ho) (sm.trans h3) h4 h5 (h6.sub ((List.Sublist.refl _).append sl))
  | bad => exact h
/-- what is known behind a statement's expression -/
structure NxS (K : PySem.W.Frag) (ca : CA) (W : WX) (D : Ends) (ro : List Nat) (σ : L2.St) {α β : Type} (val : Val α β) (S : Own) (O : List Addr) (H : Hp) (pu : Bool) (k : α → Ev → RS) (b : β) (H1 : Hp) (a : α) (ρ1 : Ev) (S1 : Own) (A1 B1 : List Addr) : Prop where
  sub : ∀ x, S x → S1 x
  fr : Fr pu S O H H1
  v : val a b S1 H1 A1
  env : RepE K ca S1 H1 σ ρ1 B1
  ow : Ow S1 H1 (A1 ++ B1 ++ O)
  post : PostS K ca W D ro σ S O H (k a ρ1)
theorem PostS.bnd {α β : Type} {val : Val α β} {pu : Bool} {r : R α} {k : α → Ev → RS} (h : PostS K ca W D ro σ S O H (r.st k)) :
    Post K ca W σ val pu S O H (fun b H1 => ∃ a ρ1 S1 A1 B1, NxS K ca W D ro σ val S O H pu k b H1 a ρ1 S1 A1 B1) r := by
  cases r with
  | ok a ρ => exact fun b S' H' A B h1 h2 h3 h4 h5 => ⟨a, ρ, S', A, B, h1, h2, h3, h4, h5, h⟩
  | ex x ρ => exact fun cls dd S' H' A B h1 h2 h3 h4 h5 => h cls dd σ S' H' A B h1 h2 .refl h3 h4 h5
  | bad => exact h
theorem PostS.bndN {α β : Type} {val : Val α β} {pu1 pu2 : Bool} {A1 : List Addr} {r : R α} {k : α → Ev → RS} (h : PostS K ca W D ro σ S O H (r.st k)) (hs : ∀ x, S x → S1 x) (fr : Fr pu1 S O H H1) :
    Post K ca W σ val pu2 S1 (A1 ++ O) H1 (fun b H2 => ∃ a ρ2 S2 A2 B2, (∀ x, S1 x → S2 x) ∧ Fr pu2 S1 (A1 ++ O) H1 H2 ∧ val a b S2 H2 A2 ∧ RepE K ca S2 H2 σ ρ2 B2 ∧ Ow S2 H2 (A2 ++ B2 ++ (A1 ++ O)) ∧ PostS K ca W D ro σ S O H (k a ρ2)) r := by
  have ho : ∀ a ∈ O, a ∈ A1 ++ O := fun a ha => List.mem_append_right _ ha
  cases r with
  | ok a ρ => exact fun b S' H' A B h1 h2 h3 h4 h5 => ⟨a, ρ, S', A, B, h1, h2, h3, h4, h5, h⟩
  | ex x ρ => exact fun cls dd S' H' A B h1 h2 h3 h4 h5 => h cls dd σ S' H' A B (fun x z => h1 x (hs x z)) (fr.tr0 h2 hs ho) .refl h3 h4 (h5.sub ((List.Sublist.refl _).append (List.sublist_append_right _ _)))
  | bad => exact h
/-- asked on from there -/
theorem NxS.go {α β : Type} {val : Val α β} {pu : Bool} {k : α → Ev → RS} {b : β} {a : α} {ρ1 : Ev} {A1 B1 : List Addr} (n : NxS K ca W D ro σ val S O H pu k b H1 a ρ1 S1 A1 B1) {f : Ev → RS} (e : f ρ1 = k a ρ1) : AskS K ca W ro f D σ H1 :=
  ⟨S1, A1 ++ O, ρ1, B1, n.env, n.ow.r1, by rw [e]; exact n.post.mono n.sub n.fr (List.sublist_append_right _ _) .refl⟩
theorem st_ow {F : Orc} {e : E} {ρ : Ev} {k : Hm.D → Ev → RS} : ((e.go F ρ).st fun d ρ => (own e d.1 d.2 ρ).st k) = (e.ow F ρ).st k := by
  unfold E.ow
  cases e.go F ρ <;> rfl
theorem PostS.seq {r : RS} {k : Ev → RS} (h : PostS K ca W D ro σ S O H (r.seq k)) : PostS K ca W { D with nx := AskS K ca W ro k D } ro σ S O H r := by
  cases r with
  | nx ρ => exact fun σ' S' H' B h1 h2 h3 h4 h5 => ⟨S', O, ρ, B, h4, h5, PostS.mono h h1 h2 (List.Sublist.refl _) h3⟩
  | _ => exact h
end
theorem PS.imp' {X : Cx} {s : Stmt} {t t' : TS} (h : PS X s t) (k : ∀ D σ H, t' D σ H → t D σ H) : PS X s t' := ⟨fun pins s σ H D I q => h.run pins s σ H D I (k _ _ _ q)⟩
theorem PSs.imp' {X : Cx} {s : List Stmt} {t t' : TS} (h : PSs X s t) (k : ∀ D σ H, t' D σ H → t D σ H) : PSs X s t' := ⟨fun pins s σ H D I q => h.run pins s σ H D I (k _ _ _ q)⟩
section
variable (m : Pm) (X : Cx) (W : WX) (ro : List Nat)
abbrev aS (s : S) : TS := AskS X.K m.ca W ro (fun ρ => s.go m.F ro ρ)
abbrev aSs (s : Ss) : TS := AskS X.K m.ca W ro (fun ρ => s.go m.F ro ρ)
end
section
variable {m : Pm} {X : Cx} {W : WX} {c : Ctx} {pos : Pos} {ro : List Nat} {D : Ends} {σ : L2.St} {H : Hp}
/-! ### name = e -/
theorem rd_set {i : Nat} {e : E} (q : aS m X W ro (.set i e) D σ H) : tAsg (aO m X W e) (gName i) D σ H := by
  obtain ⟨S, O, ρ, B, hρ, w, hp⟩ := q
  simp only [Hm.S.go] at hp
  split at hp
  · exact hp.elim
  · rename_i hro
    rw [st_ow] at hp
    refine ⟨S, O, ρ, B, hρ, w, (PostS.bnd (val := vO X.K m.ca) hp).imp fun v H1 ⟨d, ρ1, S1, A1, B1, n⟩ => ?_⟩
    have po := n.post
    split at po
    · rename_i hl
      obtain ⟨B', h1, B0, h2, h3⟩ := n.env.put i (by rw [n.env.length]; exact hl) n.v
      refine po _ S1 H1 B' n.sub (n.fr.weak (by intro z; cases z)) (.set (by simpa using hro)) h1 ?_
      have : Ow S1 H1 ((A1 ++ B0) ++ O) := n.ow.sub (((List.Sublist.refl _).append h2).append (List.Sublist.refl _))
      exact this.perm (h3.append_right O)
    · exact po.elim
theorem rd_setT {tg : List Nat} {e : E} (q : aS m X W ro (.setT tg e) D σ H) : tAsg (aO m X W e) (gT X.K true tg) D σ H := by
  obtain ⟨S, O, ρ, B, hρ, w, hp⟩ := q
  simp only [Hm.S.go] at hp
  split at hp
  · exact hp.elim
  · rename_i hro
    rw [st_ow] at hp
    refine ⟨S, O, ρ, B, hρ, w, (PostS.bnd (val := vO X.K m.ca) hp).imp fun v H1 ⟨d, ρ1, S1, A1, B1, n⟩ => ?_⟩
    have po := n.post
    split at po
    · split at po
      · rename_i hl
        obtain ⟨a, vs, A', rfl, hq, r, sl⟩ := Rep.tupK_ n.v
        have hlen : vs.length = tg.length := r.length.trans hl.1
        refine ⟨a, vs, rfl, hq, hlen, ?_⟩
        obtain ⟨B', h1, Z, h2, h3⟩ := n.env.putAll r (fun j hj => by rw [n.env.length]; exact of_decide_eq_true (List.all_eq_true.mp hl.2 j hj)) hlen
        refine po _ S1 H1 B' n.sub (n.fr.weak (by intro z; cases z)) (.setAll fun j hj z => ?_) h1 ?_
        · exact hro (List.any_eq_true.mpr ⟨j, hj, by simpa using z⟩)
        · have : Ow S1 H1 (Z ++ O) := n.ow.sub ((h2.trans (sl.append (List.Sublist.refl _))).append (List.Sublist.refl _))
          exact this.perm (h3.append_right O)
      · exact po.elim
    · exact po.elim
theorem rd_expr {e : E} (q : aS m X W ro (.expr e) D σ H) : tDrop (aE m X W e) D σ H := by
  obtain ⟨S, O, ρ, B, hρ, w, hp⟩ := q
  simp only [Hm.S.go] at hp
  refine ⟨S, O, ρ, B, hρ, w, (PostS.bnd (val := vE X.K m.ca) hp).imp fun v H1 ⟨d, ρ1, S1, A1, B1, n⟩ => ?_⟩
  exact n.post σ S1 H1 B1 n.sub (n.fr.weak (by intro z; cases z)) .refl n.env n.ow.drop1
theorem rd_ret {e : E} (q : aS m X W ro (.ret e) D σ H) : tRet (aO m X W e) D σ H := by
  obtain ⟨S, O, ρ, B, hρ, w, hp⟩ := q
  simp only [Hm.S.go] at hp
  rw [st_ow] at hp
  refine ⟨S, O, ρ, B, hρ, w, (PostS.bnd (val := vO X.K m.ca) hp).imp fun v H1 ⟨d, ρ1, S1, A1, B1, n⟩ => ?_⟩
  exact n.post v σ S1 H1 A1 B1 n.sub (n.fr.weak (by intro z; cases z)) .refl n.v n.env n.ow
theorem rd_retN (q : aS m X W ro (.ret (.c .non)) D σ H) : tRetN D σ H := by
  obtain ⟨S, O, ρ, B, hρ, w, hp⟩ := q
  exact hp .non σ S H [] B (fun _ z => z) Fr.refl .refl .non hρ (by simpa using w)
theorem rd_iff {t : T} {a b : Ss} (q : aS m X W ro (.iff t a b) D σ H) : tIfS (aT m X W t) (aSs m X W ro a) (aSs m X W ro b) D σ H := by
  obtain ⟨S, O, ρ, B, hρ, w, hp⟩ := q
  simp only [Hm.S.go] at hp
  refine ⟨S, O, ρ, B, hρ, w, (PostS.bnd (val := vB) hp).imp fun k H1 ⟨d, ρ1, S1, A1, B1, n⟩ => ?_⟩
  obtain ⟨rfl, rfl⟩ := n.v
  cases k with
  | true => exact n.go (by simp)
  | false => exact n.go (by simp)
theorem rd_pass (q : aS m X W ro .pass D σ H) : tNext D σ H := by
  obtain ⟨S, O, ρ, B, hρ, w, hp⟩ := q
  exact hp σ S H B (fun _ z => z) Fr.refl .refl hρ w
theorem rd_brk (q : aS m X W ro .brk D σ H) : tBreak D σ H := by
  obtain ⟨S, O, ρ, B, hρ, w, hp⟩ := q
  exact hp σ S H B (fun _ z => z) Fr.refl .refl hρ w
theorem rd_cnt (q : aS m X W ro .cnt D σ H) : tCont D σ H := by
  obtain ⟨S, O, ρ, B, hρ, w, hp⟩ := q
  exact hp σ S H B (fun _ z => z) Fr.refl .refl hρ w
theorem rd_nil (q : aSs m X W ro .nil D σ H) : tNext D σ H := by
  obtain ⟨S, O, ρ, B, hρ, w, hp⟩ := q
  exact hp σ S H B (fun _ z => z) Fr.refl .refl hρ w
theorem rd_cons {s : Hm.S} {r : Ss} (q : aSs m X W ro (.cons s r) D σ H) : tSeq (aS m X W ro s) (aSs m X W ro r) D σ H := by
  obtain ⟨S, O, ρ, B, hρ, w, hp⟩ := q
  simp only [Hm.Ss.go] at hp
  exact ⟨S, O, ρ, B, hρ, w, hp.seq⟩
end
end Hm
end
section
set_option Elab.async false
set_option linter.all false
set_option maxRecDepth 100000
/-! Changes in place; loops. -/
namespace Hm
open PySem PySem.Spec PyProof.Rows L2
section
variable {K : PySem.W.Frag} {ca : CA} {S : Own} {H : Hp} {σ : L2.St} {ρ : Ev} {A B O : List Addr}
/-- a name's own object at l is written: A what comes in, A0 what stood in it, Z what is left of that -/
theorem inplace (env : RepE K ca S H σ ρ B) (w : Ow S H (A ++ B ++ O)) {i : Nat} {l : Addr} {A0 Z B0 : List Addr} {o : HO} {d : D}
    (ev : σ[i]? = some (some (.ref l))) (e0 : RepE K ca S H σ (ρ.set i none) B0) (pm : ((l :: A0) ++ B0).Perm B) (hi : i < ρ.length)
    (hn : ∀ H', (∀ a, S a → H' a = H a) → (∀ a ∈ A ++ A0, H' a = H a) → H' l = some o → ∃ A2, Rep K ca S H' (.ref l) d (l :: A2) ∧ A2.Perm (A ++ Z)) (hz : List.Sublist Z A0) :
    ∃ B', RepE K ca S (upd H l o) σ (ρ.set i (some d)) B' ∧ Ow S (upd H l o) (B' ++ O) ∧ Fr false S O H (upd H l o) := by
  have w1 : Ow S H (l :: ((A ++ A0) ++ (B0 ++ O))) := w.perm (by
    have h1 : (A ++ B ++ O).Perm (A ++ ((l :: A0) ++ B0) ++ O) := ((List.Perm.refl A).append pm.symm).append_right O
    refine List.Perm.trans ?_ h1.symm
    have h2 : A ++ (l :: A0 ++ B0) ++ O = A ++ ([l] ++ (A0 ++ (B0 ++ O))) := by simp
    rw [h2]
    refine List.Perm.trans ?_ (List.perm_append_comm_assoc [l] A (A0 ++ (B0 ++ O)))
    simp)
  have nS : ∀ a, S a → upd H l o a = H a := fun a ha => upd_ne fun z => (w1.own l List.mem_cons_self).1 (z ▸ ha)
  have nL : ∀ a ∈ (A ++ A0) ++ (B0 ++ O), upd H l o a = H a := fun a ha => upd_ne fun z => (List.nodup_cons.mp w1.nd).1 (z ▸ ha)
  obtain ⟨A2, r, p2⟩ := hn (upd H l o) nS (fun a ha => nL a (List.mem_append_left _ ha)) upd_same
  have e1 := e0.frame (fun _ z => z) nS fun a ha => nL a (List.mem_append_right _ (List.mem_append_left _ ha))
  obtain ⟨B', h1, h2⟩ := e1.re i ev (by simp [hi]) r
  rw [List.set_set] at h1
  refine ⟨B', h1, ?_, fun a ha => ?_, fun z => by cases z⟩
  · have w2 : Ow S (upd H l o) (l :: ((A ++ Z) ++ (B0 ++ O))) := (w1.wr List.mem_cons_self).sub ((((List.Sublist.refl _).append hz).append (List.Sublist.refl _)).cons_cons l)
    refine w2.perm ?_
    have h3 : (B' ++ O).Perm ((l :: A2) ++ B0 ++ O) := h2.append_right O
    refine h3.trans ?_
    have h4 : (l :: A2 ++ B0 ++ O) = l :: (A2 ++ (B0 ++ O)) := by simp
    rw [h4]
    exact (p2.append_right _).cons l
  · rcases ha with ha | ha
    · exact nS a ha
    · exact nL a (List.mem_append_right _ (List.mem_append_right _ ha))
theorem Rep.lstO_ {v : V} {xs : List D} {A : List Addr} (r : Rep K ca S H v (.lst true xs) A) : ∃ l vs A', v = .ref l ∧ H l = some (.lst vs) ∧ Reps K ca S H vs xs A' ∧ A = l :: A' := by
  cases r with
  | lstO h q => exact ⟨_, _, _, rfl, h, q, rfl⟩
theorem Rep.dKO_ {v : V} {ks : List Key} {xs : List D} {A : List Addr} (r : Rep K ca S H v (.dK true ks xs) A) : ∃ l kvs A', v = .ref l ∧ H l = some (.dK kvs) ∧ kvs.map (·.1) = ks ∧ Reps K ca S H (kvs.map (·.2)) xs A' ∧ A = l :: A' := by
  cases r with
  | dKO h e1 e2 q => subst e2; exact ⟨_, _, _, rfl, h, e1, q, rfl⟩
theorem Reps.set_ : ∀ {vs : List V} {ds : List D} {A : List Addr}, Reps K ca S H vs ds A → ∀ {n : Nat} {v : V} {d : D} {A1 : List Addr}, n < ds.length → Rep K ca S H v d A1 → ∃ A2 Z, Reps K ca S H (vs.set n v) (ds.set n d) A2 ∧ List.Sublist Z A ∧ A2.Perm (A1 ++ Z)
  | _, _, _, .nil, n, v, d, A1, hl, p => by simp at hl
  | _, _, _, .cons (A := A) (B := B) r q, 0, v, d, A1, hl, p => ⟨A1 ++ B, B, .cons p q, List.sublist_append_right _ _, List.Perm.refl _⟩
  | _, _, _, .cons (A := A) (B := B) r q, n + 1, v, d, A1, hl, p => by
    obtain ⟨A2, Z, h1, h2, h3⟩ := q.set_ (n := n) (by simpa using hl) p
    exact ⟨A ++ A2, A ++ Z, .cons r h1, (List.Sublist.refl A).append h2, (h3.append_left A).trans (List.perm_append_comm_assoc A A1 Z)⟩
/-- a key's value put where the key stands once -/
theorem putK_at : ∀ {kvs : List (Key × V)} {n : Nat} {q : Key} {v : V}, (kvs.map (·.1)).findIdx? (fun k => decide (k = q)) = some n → ((kvs.map (·.1)).drop (n + 1)).all (fun k => !decide (k = q)) = true →
    (kvs.any fun kv => decide (kv.1 = q)) = true ∧ kvs.map (fun kv => if kv.1 = q then (kv.1, v) else kv) = kvs.set n (q, v) := by
  intro kvs
  induction kvs with
  | nil => intro n q v h; simp at h
  | cons p kvs ih =>
    intro n q v h h2
    rw [List.map_cons, List.findIdx?_cons] at h
    by_cases e : p.1 = q
    · rw [if_pos (decide_eq_true e)] at h
      cases h
      refine ⟨by simp [e], ?_⟩
      rw [List.map_cons, if_pos e, List.set_cons_zero, e]
      congr 1
      have : ∀ kv ∈ kvs, ¬ kv.1 = q := fun kv hkv z => by
        have := List.all_eq_true.mp h2 kv.1 (by simpa using ⟨_, hkv⟩)
        simp [z] at this
      conv => rhs; rw [← List.map_id kvs]
      exact List.map_congr_left fun kv hkv => by rw [if_neg (this kv hkv)]; rfl
    · rw [if_neg (by simpa using e)] at h
      obtain ⟨k, h3, rfl⟩ := Option.map_eq_some_iff.mp h
      obtain ⟨i1, i2⟩ := ih (v := v) h3 (by simpa using h2)
      refine ⟨by rw [List.any_cons, i1, Bool.or_true], ?_⟩
      rw [List.map_cons, if_neg e, List.set_cons_succ, i2]
theorem putK_no {kvs : List (Key × V)} {q : Key} {v : V} (h : (kvs.map (·.1)).findIdx? (fun k => decide (k = q)) = none) : putK kvs q v = kvs ++ [(q, v)] := by
  unfold putK
  rw [if_neg]
  intro z
  rw [List.findIdx?_eq_none_iff] at h
  obtain ⟨kv, hk, e⟩ := List.any_eq_true.mp z
  have := h kv.1 (List.mem_map_of_mem (f := Prod.fst) hk)
  rw [this] at e
  cases e
end
section
variable {m : Pm} {X : Cx} {W : WX} {c : Ctx} {pos : Pos} {ro : List Nat} {Ed : Ends} {σ : L2.St} {H : Hp}
theorem get_set {ρ : Ev} {i : Nat} {d : D} (h : ρ[i]? = some (some d)) : i < ρ.length := (List.getElem?_eq_some_iff.mp h).1
theorem rd_app {i : Nat} {e : E} (q : aS m X W ro (.app i e) Ed σ H) : tDrop (tBM X.K "list" rAppend (tVar i) (tCons (aO m X W e) tNil)) Ed σ H := by
  obtain ⟨So, O, ρ, B, hρ, w, hp⟩ := q
  simp only [Hm.S.go] at hp
  split at hp
  · rename_i o0 xs0 e0
    obtain ⟨v, A, e1, r, _⟩ := hρ.get e0
    obtain ⟨p, vs0, A', rfl, h1, _, _⟩ := r.lst_
    refine ⟨_, e1, .inl ⟨rfl, vs0, .inl (.inl h1)⟩, ?_⟩
    rw [st_ow] at hp
    refine ⟨So, O, ρ, B, hρ, w, (PostS.bnd (val := vO X.K m.ca) hp).imp fun y H1 ⟨d, ρ1, S1, A1, B1, n⟩ => ?_⟩
    have po := n.post
    split at po
    · rename_i xs e2
      split at po
      · rename_i hl
        obtain ⟨B0, q1, q2, q3⟩ := n.env.off i
        obtain ⟨v2, A2, e3, r2, pm⟩ := q3 _ e2
        rw [e1] at e3
        cases e3
        obtain ⟨l, vs, A3, ez, h3, r3, rfl⟩ := r2.lstO_
        cases ez
        refine ⟨p, vs, y, rfl, rfl, h3, by rw [r3.length]; exact hl, ?_⟩
        obtain ⟨B', k1, k2, k3⟩ := inplace (o := .lst (vs ++ [y])) (d := .lst true (xs ++ [d])) (Z := A3) n.env n.ow e1 q1 pm (get_set e2) (fun H' hS hA hl' => ⟨A3 ++ A1, .lstO hl' ((r3.frame (fun _ z => z) hS fun a ha => hA a (List.mem_append_right _ ha)).snoc (Rep.frame (fun _ z => z) hS n.v fun a ha => hA a (List.mem_append_left _ ha))), List.perm_append_comm⟩) (List.Sublist.refl _)
        exact po σ S1 _ B' n.sub (n.fr.tr0 k3 n.sub fun _ z => z) .refl k1 k2
      · exact po.elim
    · exact po.elim
  · exact hp.elim
/-! ### x[k] = e, of a list or a dict -/
def rPut : V → V → V → Hp → (Hp → Prop) → Prop := fun o i v H Q => rSetL o i v H Q ∨ ∃ a H4, o = .ref a ∧ DPut H a i v H4 ∧ Q H4
theorem pset_put (hu : X.A.units + 1 < cLine) : PSet X rPut := by
  intro pins s σ H o i v ov iv u Q I ro ri rv h
  rcases h with h | ⟨a, H4, rfl, g, q⟩
  · exact set_list pins s σ H o i v ov iv u Q I ro ri rv h
  · obtain rfl : ov = Value.ref a := ro
    exact d_setItem hu I g ri rv fun s4 I4 => ⟨H4, I4, q⟩
theorem rd_put {i : Nat} {k e : E} (q : aS m X W ro (.put i k e) Ed σ H) : tAsg (aO m X W e) (gSub (tVar i) (aE m X W k) rPut) Ed σ H := by
  obtain ⟨So, O, ρ, B, hρ, w, hp⟩ := q
  simp only [Hm.S.go] at hp
  rw [st_ow] at hp
  refine ⟨So, O, ρ, B, hρ, w, (PostS.bnd (val := vO X.K m.ca) hp).imp fun y H1 ⟨d, ρ1, S1, A1, B1, n⟩ => ?_⟩
  have po := n.post
  split at po
  · rename_i hpu
    simp only [Bool.and_eq_true] at hpu
    obtain ⟨d0, e0⟩ := join_some hpu.2
    obtain ⟨v0, _, e1, _, _⟩ := n.env.get e0
    refine ⟨v0, e1, S1, A1 ++ O, ρ1, B1, n.env, n.ow.r1, (PostS.bndN (val := vE X.K m.ca) (pu2 := k.pu) (A1 := A1) po n.sub n.fr).imp fun z H2 ⟨kd, ρ2, S2, A2, B2, sub2, fr2, kv, env2, ow2, po2⟩ => ?_⟩
    obtain ⟨Ak, rk, _⟩ := kv
    have ry : Rep X.K m.ca S2 H2 y d A1 := Rep.frame sub2 (fun a ha => fr2.st a (.inl ha)) n.v fun a ha => fr2.st a (.inr (List.mem_append_left _ ha))
    have w2 : Ow S2 H2 (A1 ++ B2 ++ O) := ow2.drop1.perm (by
      rw [List.append_assoc]
      exact List.perm_append_comm_assoc A1 B2 O)
    have sub : ∀ a, So a → S2 a := fun a ha => sub2 a (n.sub a ha)
    have fr : Fr false So O H H2 := n.fr.tr0 fr2 n.sub fun a ha => List.mem_append_right _ ha
    split at po2
    · rename_i xs e2
      obtain ⟨B0, q1, q2, q3⟩ := env2.off i
      obtain ⟨v2, A2', e3, r2, pm⟩ := q3 _ e2
      rw [e1] at e3
      cases e3
      obtain ⟨l, vs, A3, rfl, h3, r3, rfl⟩ := r2.lstO_
      split at po2
      · rename_i j ek
        rw [ek] at rk
        obtain rfl := rk.int_
        split at po2
        · rename_i nn en
          have hnn : nn < xs.length := ixN_len en
          obtain ⟨A4, Z, k1, k2, k3⟩ := r3.set_ hnn ry
          obtain ⟨B', g1, g2, g3⟩ := inplace (o := .lst (vs.set nn y)) (d := .lst true (xs.set nn d)) (Z := Z) env2 w2 e1 q1 pm (get_set e2) (fun H' hS hA hl' => by
            obtain ⟨A5, Z', m1, m2, m3⟩ := Reps.set_ (r3.frame (H' := H') (fun _ z => z) hS fun a ha => hA a (List.mem_append_right _ ha)) hnn (Rep.frame (fun _ z => z) hS ry fun a ha => hA a (List.mem_append_left _ ha))
            exact ⟨A4, .lstO hl' (k1.frame (fun _ z => z) hS fun a ha => hA a ((List.mem_append.mp (k3.mem_iff.mp ha)).elim (List.mem_append_left _) fun q => List.mem_append_right _ (k2.subset q))), k3⟩) k2
          refine .inl ⟨l, vs, j, nn, rfl, rfl, h3, by rw [r3.length]; exact en, ?_⟩
          exact po2 σ S2 _ B' sub (fr.tr0 g3 sub fun _ z => z) .refl g1 g2
        · exact po2.elim
      · exact po2.elim
    · rename_i ks ds e2
      obtain ⟨B0, q1, q2, q3⟩ := env2.off i
      obtain ⟨v2, A2', e3, r2, pm⟩ := q3 _ e2
      rw [e1] at e3
      cases e3
      obtain ⟨l, kvs, A3, rfl, h3, rfl, r3, rfl⟩ := r2.dKO_
      split at po2
      · rename_i q ek
        obtain rfl := rk.keyV ek
        split at po2
        · rename_i hsz
          have hl : kvs.length < sizeLine := by simpa using hsz.1
          split at po2
          · rename_i nn en
            split at po2
            · rename_i hdr
              obtain ⟨p1, p2⟩ := putK_at (v := y) en hdr
              have hnn : nn < ds.length := by
                rw [← hsz.2]
                exact (List.findIdx?_eq_some_iff_getElem.mp en).1
              obtain ⟨A4, Z, k1, k2, k3⟩ := r3.set_ hnn ry
              have ekv : putK kvs q y = kvs.set nn (q, y) := by unfold putK; rw [if_pos p1, p2]
              have ek1 : (putK kvs q y).map (·.1) = kvs.map (·.1) := by
                unfold putK
                rw [if_pos p1, List.map_map]
                exact List.map_congr_left fun kv _ => by
                  show (if kv.1 = q then (kv.1, y) else kv).1 = kv.1
                  split <;> rfl
              have ek2 : (putK kvs q y).map (·.2) = (kvs.map (·.2)).set nn y := by rw [ekv, List.map_set]
              obtain ⟨B', g1, g2, g3⟩ := inplace (o := .dK (putK kvs q y)) (d := .dK true (kvs.map (·.1)) (ds.set nn d)) (Z := Z) env2 w2 e1 q1 pm (get_set e2) (fun H' hS hA hl' => 
                ⟨A4, .dKO hl' ek1 ek2 (k1.frame (fun _ z => z) hS fun a ha => hA a ((List.mem_append.mp (k3.mem_iff.mp ha)).elim (List.mem_append_left _) fun q => List.mem_append_right _ (k2.subset q))), k3⟩) k2
              refine .inr ⟨l, _, rfl, DPut.k h3 hl, ?_⟩
              exact po2 σ S2 _ B' sub (fr.tr0 g3 sub fun _ z => z) .refl g1 g2
            · exact po2.elim
          · rename_i en
            have ekv : putK kvs q y = kvs ++ [(q, y)] := putK_no en
            obtain ⟨B', g1, g2, g3⟩ := inplace (o := .dK (putK kvs q y)) (d := .dK true (kvs.map (·.1) ++ [q]) (ds ++ [d])) (Z := A3) env2 w2 e1 q1 pm (get_set e2) (fun H' hS hA hl' => 
              ⟨A3 ++ A1, .dKO hl' (by rw [ekv, List.map_append]; rfl) (by rw [ekv, List.map_append]; rfl) ((r3.snoc ry).frame (fun _ z => z) hS fun a ha => hA a (List.mem_append.mpr (List.mem_append.mp ha).symm)), List.perm_append_comm⟩) (List.Sublist.refl _)
            refine .inr ⟨l, _, rfl, DPut.k h3 hl, ?_⟩
            exact po2 σ S2 _ B' sub (fr.tr0 g3 sub fun _ z => z) .refl g1 g2
        · exact po2.elim
      · exact po2.elim
    · exact po2.elim
  · exact po.elim
/-! ### loops -/
theorem rd_for {tg : List Nat} {it : It} {b : Ss} {tup : Bool} (q : aS m X W ro (.for_ tg it b) Ed σ H) : tFor (aIt m X W tup it) (gT X.K tup tg) (aSs m X W ro b) Ed σ H := by
  obtain ⟨So, O, ρ, B, hρ, w, hp⟩ := q
  simp only [Hm.S.go] at hp
  split at hp
  · exact hp.elim
  · rename_i hro
    have hro' : ∀ j ∈ tg, j ∉ ro := fun j hj z => hro (List.any_eq_true.mpr ⟨j, hj, by simpa using z⟩)
    refine ⟨So, O, ρ, B, hρ, w, (PostS.bnd (val := vF X.K m.ca tup) (pu := false) hp).imp fun J H1 ⟨its, ρ1, S1, A1, B1, n⟩ => ?_⟩
    obtain ⟨Fd, feed, fd0⟩ := n.v
    refine ⟨fun i mm σ' Hx => mm = its.length - i ∧ ∃ S' A' B' ρ', i ≤ its.length ∧ (∀ a, So a → S' a) ∧ Fr false So O H Hx ∧ SameR ro σ σ' ∧ Fd i S' Hx A' ∧ RepE X.K m.ca S' Hx σ' ρ' B' ∧ Ow S' Hx (B' ++ (A' ++ O)) ∧ PostS X.K m.ca W Ed ro σ So O H (forGo tg (fun ρ => b.go m.F ro ρ) (its.drop i) ρ'),
      ⟨_, rfl, S1, A1, B1, ρ1, Nat.zero_le _, n.sub, n.fr, .refl, fd0, n.env, n.ow.r1, n.post⟩, ?_⟩
    rintro i mm σ' Hx ⟨rfl, S', A', B', ρ', hle, sub, fr, sm, fd, env, ow, po⟩
    by_cases hend : i = its.length
    · subst hend
      refine .inl ⟨feed.stop _ _ _ fd, ?_⟩
      rw [List.drop_length] at po
      exact po σ' S' Hx B' sub fr sm env (ow.sub ((List.Sublist.refl _).append (List.sublist_append_right _ _)))
    · have hlt : i < its.length := Nat.lt_of_le_of_ne hle hend
      have w0 : Ow S' Hx (A' ++ (B' ++ O)) := ow.perm (List.perm_append_comm_assoc A' B' O)
      obtain ⟨hgo, hyld⟩ := feed.go i its[i] S' Hx A' _ (List.getElem?_eq_getElem hlt) fd w0
      rw [List.drop_eq_getElem_cons hlt] at po
      simp only [forGo] at po
      split at po
      · rename_i hlen
        refine .inr ⟨hgo, fun σ2 Hy => ∃ S' A' B' ρ', i + 1 ≤ its.length ∧ (∀ a, So a → S' a) ∧ Fr false So O H Hy ∧ SameR ro σ σ2 ∧ Fd (i + 1) S' Hy A' ∧ RepE X.K m.ca S' Hy σ2 ρ' B' ∧ Ow S' Hy (B' ++ (A' ++ O)) ∧ PostS X.K m.ca W Ed ro σ So O H (forGo tg (fun ρ => b.go m.F ro ρ) (its.drop (i + 1)) ρ'), fun σ2 Hy hy => ⟨its.length - (i + 1), by omega, rfl, hy⟩, fun x H' hy => ?_⟩
        obtain ⟨S2, Ai, A1n, s2, ext, itm, fd2, w2⟩ := hyld x H' hy
        obtain ⟨xs, rxs, hxl, hg⟩ := itm_tg itm hlen.1
        refine hg _ _ ?_
        have same : ∀ a, (∃ o, Hx a = some o) → H' a = Hx a := fun a ⟨o, e⟩ => by rw [ext a o e, e]
        have env2 : RepE X.K m.ca S2 H' σ' ρ' B' := env.frame s2 (fun a ha => same a (ow.com a ha)) fun a ha => same a (ow.own a (List.mem_append_left _ ha)).2
        have fr2 : Fr false So O H H' := ⟨fun a ha => by
          rw [← fr.st a ha]
          rcases ha with ha | ha
          · exact same a (ow.com a (sub a ha))
          · exact same a (ow.own a (List.mem_append_right _ (List.mem_append_right _ ha))).2, fun z => by cases z⟩
        have htl : ∀ j ∈ tg, j < σ'.length := fun j hj => by
          rw [env.length]
          exact of_decide_eq_true (List.all_eq_true.mp hlen.2 j hj)
        obtain ⟨B3, env3, Z, z1, z2⟩ := env2.putAll rxs htl hxl
        have w3 : Ow S2 H' (B3 ++ (A1n ++ O)) := by
          have e1 : (Ai ++ B' ++ (A1n ++ O)).Perm (Ai ++ (A1n ++ (B' ++ O))) := by
            rw [List.append_assoc]
            exact List.Perm.append_left Ai (List.perm_append_comm_assoc B' A1n O)
          exact ((w2.perm e1).sub (z1.append (List.Sublist.refl _))).perm (z2.append_right _)
        have sub2 : ∀ a, So a → S2 a := fun a ha => s2 a (sub a ha)
        have sm2 : SameR ro σ (setAll σ' tg xs) := sm.trans (.setAll hro')
        have slO : List.Sublist O (A1n ++ O) := List.sublist_append_right _ _
        refine ⟨S2, A1n ++ O, putE ρ' tg its[i], B3, env3, w3, ?_⟩
        show PostS _ _ _ _ _ _ _ _ _ (b.go m.F ro (putE ρ' tg its[i]))
        have nxt : ∀ ρ2, PostS X.K m.ca W Ed ro σ So O H (forGo tg (fun ρ => b.go m.F ro ρ) (its.drop (i + 1)) ρ2) → ∀ σ2 S' Hy B, (∀ x, S2 x → S' x) → Fr false S2 (A1n ++ O) H' Hy → SameR ro (setAll σ' tg xs) σ2 → RepE X.K m.ca S' Hy σ2 ρ2 B → Ow S' Hy (B ++ (A1n ++ O)) →
            ∃ S' A' B' ρ', i + 1 ≤ its.length ∧ (∀ a, So a → S' a) ∧ Fr false So O H Hy ∧ SameR ro σ σ2 ∧ Fd (i + 1) S' Hy A' ∧ RepE X.K m.ca S' Hy σ2 ρ' B' ∧ Ow S' Hy (B' ++ (A' ++ O)) ∧ PostS X.K m.ca W Ed ro σ So O H (forGo tg (fun ρ => b.go m.F ro ρ) (its.drop (i + 1)) ρ') :=
          fun ρ2 hp σ2 S' Hy B h1 h2 h3 h4 h5 => ⟨S', A1n, B, ρ2, hlt, fun a ha => h1 a (sub2 a ha), fr2.tr0 h2 sub2 fun a ha => slO.subset ha, sm2.trans h3, feed.fr _ _ _ _ _ _ fd2 h1 (fun a ha => h2.st a (.inl ha)) fun a ha => h2.st a (.inr (List.mem_append_left _ ha)), h4, h5, hp⟩
        cases hb : b.go m.F ro (putE ρ' tg its[i]) with
        | nx ρ2 => rw [hb] at po; exact nxt ρ2 po
        | cnt ρ2 => rw [hb] at po; exact nxt ρ2 po
        | brk ρ2 =>
          rw [hb] at po
          exact PostS.mono (r := .nx ρ2) (D := Ed) po sub2 fr2 slO sm2
        | ret d ρ2 =>
          rw [hb] at po
          exact PostS.mono (r := .ret d ρ2) (D := Ed) po sub2 fr2 slO sm2
        | ex x ρ2 =>
          rw [hb] at po
          exact PostS.mono (r := .ex x ρ2) (D := Ed) po sub2 fr2 slO sm2
        | bad => rw [hb] at po; exact po.elim
      · exact po.elim
theorem rd_whl {t : T} {b : Ss} (q : aS m X W ro (.whl t b) Ed σ H) : tWhile (aT m X W t) (aSs m X W ro b) Ed σ H := by
  obtain ⟨So, O, ρ, B, hρ, w, hp⟩ := q
  simp only [Hm.S.go] at hp
  refine ⟨fun mm σ' Hx => ∃ S' B' ρ', RepE X.K m.ca S' Hx σ' ρ' B' ∧ Ow S' Hx (B' ++ O) ∧ PostS X.K m.ca W Ed ro σ' S' O Hx (whlGo (fun ρ => t.tst m.F ρ) (fun ρ => b.go m.F ro ρ) mm ρ'),
    ⟨_, So, B, ρ, hρ, w, hp⟩, ?_⟩
  rintro mm σ' Hx ⟨S', B', ρ', env, ow, po⟩
  cases mm with
  | zero => exact po.elim
  | succ n =>
    simp only [whlGo] at po
    refine ⟨S', O, ρ', B', env, ow, (PostS.bnd (val := vB) (pu := false) po).imp fun k H1 ⟨d, ρ1, S1, A1, B1, nx⟩ => ?_⟩
    obtain ⟨rfl, rfl⟩ := nx.v
    have ow1 : Ow S1 H1 (B1 ++ O) := nx.ow
    have p3 := nx.post
    cases k with
    | false =>
      rw [if_neg (by simp)] at p3 ⊢
      exact p3 σ' S1 H1 B1 nx.sub (nx.fr.weak fun z => z) .refl nx.env ow1
    | true =>
      rw [if_pos rfl] at p3 ⊢
      have p4 := PostS.mono p3 nx.sub nx.fr (List.Sublist.refl _) .refl
      refine ⟨fun σ2 Hy => ∃ S' B' ρ', RepE X.K m.ca S' Hy σ2 ρ' B' ∧ Ow S' Hy (B' ++ O) ∧ PostS X.K m.ca W Ed ro σ2 S' O Hy (whlGo (fun ρ => t.tst m.F ρ) (fun ρ => b.go m.F ro ρ) n ρ'), fun σ2 Hy hy => ⟨n, Nat.lt_succ_self n, hy⟩, ?_⟩
      refine ⟨S1, O, ρ1, B1, nx.env, ow1, ?_⟩
      show PostS _ _ _ _ _ _ _ _ _ (b.go m.F ro ρ1)
      cases hb : b.go m.F ro ρ1 with
      | nx ρ2 =>
        rw [hb] at p4
        exact fun σ2 S2 Hy B2 h1 h2 h3 h4 h5 => ⟨S2, B2, ρ2, h4, h5, PostS.mono p4 h1 h2 (List.Sublist.refl _) h3⟩
      | cnt ρ2 =>
        rw [hb] at p4
        exact fun σ2 S2 Hy B2 h1 h2 h3 h4 h5 => ⟨S2, B2, ρ2, h4, h5, PostS.mono p4 h1 h2 (List.Sublist.refl _) h3⟩
      | brk ρ2 => rw [hb] at p4; exact p4
      | ret d ρ2 => rw [hb] at p4; exact p4
      | ex x ρ2 => rw [hb] at p4; exact p4
      | bad => rw [hb] at p4; exact p4.elim
end
end Hm
end
section
set_option Elab.async false
set_option linter.all false
set_option maxRecDepth 100000
/-! All statements. -/
namespace Hm
open PySem PySem.Spec PyProof.Rows L2
def notCo : Expr → Bool
  | .ListComp _ _ _ _ => false
  | .SetComp _ _ _ _ => false
  | .DictComp _ _ _ _ _ => false
  | _ => true
def notTu : Expr → Bool
  | .Tuple _ _ _ => false
  | _ => true
def fnKind : ScopeKind → Bool
  | .function => true
  | _ => false
def blkK (sc : Scope) : ScopeKind := if sc.kind.isAnnotationScope then .function else sc.kind
/-- the name takes the new list on the comprehension's own line -/
def swV (c : Ctx) (x : Str) (p : Pos) (s : Scope) (q : Pos) : Bool :=
  blkK c.sc == .function && c.sc.names.lookup x == some .local && p.line == q.line && !(s.names.any fun (n, k) => n == x && (k == .local || k == .cell))
def asgB (c : Ctx) (x : Str) (p : Pos) : Expr → Bool
  | .ListComp _ _ s q => true
  | .SetComp _ _ _ _ => false
  | .DictComp _ _ _ _ _ => false
  | _ => true
mutual
def mS (t : Tab) : S → Ctx → Stmt → Bool
  | .set i e, c, s => (match s with
    | .Assign [.Name x p] a _ => locB c i x && (asgB c x p a && mE t e c a)
    | _ => false)
  | .setT tg e, c, s => (match s with
    | .Assign [.Tuple l k p] a _ => mTg c tg (.Tuple l k p) && (notTu a && mE t e c a)
    | _ => false)
  | .expr e, c, s => (match s with
    | .Expr a _ => notCo a && mE t e c a
    | _ => false)
  | .app i e, c, s => (match s with
    | .Expr (.Call (.Attribute (.Name x _) m ap) [b] [] cp) _ => decide (m = "append") && ((ap.endLine == cp.line) && (visB c i x && (notSt b && mE t e c b)))
    | _ => false)
  | .put i k e, c, s => (match s with
    | .Assign [.Subscript (.Name x _) j _] a _ => visB c i x && (notSl j && (mE t k c j && mE t e c a))
    | _ => false)
  | .ret e, c, s => (match s with
    | .Return (some a) _ => mE t e c a
    | .Return none _ => (match e with
      | .c .non => true
      | _ => false)
    | _ => false)
  | .iff k a b, c, s => (match s with
    | .If e p q _ => mT t k c e && (mSs t a c p && mSs t b c q)
    | _ => false)
  | .for_ tg it b, c, s => (match s with
    | .For g i body [] _ => notSet i && (mTg c tg g && (mIt t it c g i && mSs t b c body))
    | _ => false)
  | .whl k b, c, s => (match s with
    | .While e body [] _ => mT t k c e && mSs t b c body
    | _ => false)
  | .pass, _, s => (match s with
    | .Pass _ => true
    | .Expr (.Constant (.str _) _ _) _ => true
    | _ => false)
  | .brk, _, s => (match s with
    | .Break _ => true
    | _ => false)
  | .cnt, _, s => (match s with
    | .Continue _ => true
    | _ => false)
  | .nev, _, _ => true
def mSs (t : Tab) : Ss → Ctx → List Stmt → Bool
  | .nil, _, [] => true
  | .cons s r, c, a :: l => mS t s c a && mSs t r c l
  | _, _, _ => false
end
structure StC (m : Pm) (c : Ctx) (X : Cx) (W : WX) : Prop where
  ok : CtxOk m c X W
  po : PassesOwn (model X.prog X.w) X.A X.env X.xe
section
variable {m : Pm} {X : Cx} {W : WX} {c : Ctx} {pos : Pos} {ro : List Nat}
theorem sw_no {a : Expr} (h : notCo a = true) {g : Option Expr} {l : Nat} {env : Env} : swapsWith a g l env = pure false := by
  cases a <;> first | rfl | (simp [notCo] at h)
theorem sw_tup {a : Expr} {ts : List Expr} {k : Nat} {p : Pos} {l : Nat} {env : Env} : swapsWithSole [.Tuple ts k p] a l env = pure false := by
  cases a <;> rfl
theorem sw_sub {a o i : Expr} {p : Pos} {l : Nat} {env : Env} : swapsWithSole [.Subscript o i p] a l env = pure false := by
  cases a <;> rfl
theorem ss_tup {a : Expr} (h : notTu a = true) {ts : List Expr} {k : Nat} {p : Pos} {env : Env} : swappedStores [.Tuple ts k p] a env = pure none := by
  cases a <;> first | rfl | (simp [notTu] at h)
theorem ps_nev {s : Stmt} : PS X s (aS m X W ro .nev) := ⟨fun pins s σ H D I ⟨So, O, ρ, B, hρ, w, hp⟩ => False.elim hp⟩
theorem assign_sub {o i : Expr} (h : notSl i = true) {pos : Pos} {env : Env} (v : Value) : assign (.Subscript o i pos) env v = (do
      let ov ← holding [v] (eval o env)
      let iv ← holding [v, ov] (eval i env)
      standAt pos
      holding [v, ov, iv] (setItem ov iv v)
      release [v, ov, iv] []) := by
  cases i <;> first | rfl | (simp [notSl] at h)
theorem sndSet (hx : CtxOk m c X W) {i : Nat} {e : E} {x : Str} {p sp : Pos} {a : Expr} (hl : locB c i x = true) (h : asgB c x p a = true) (he : mE m.t e c a = true) : PS X (.Assign [.Name x p] a sp) (aS m X W ro (.set i e)) := by
  obtain ⟨h1, h2, h3⟩ := hx.loc hl
  have plain : swapsWith a (some (.Name x p)) sp.line X.env = pure false → PS X (.Assign [.Name x p] a sp) (aS m X W ro (.set i e)) := fun hs =>
    PS.imp (ps_set hx.nd h1 h2 (own_of hx he (sndE e hx he)) hs h3) fun D σ H q => rd_set q
  cases hc : notCo a with
  | true => exact plain (sw_no hc)
  | false =>
    cases a <;> first | (simp [notCo] at hc; done) | (simp [asgB] at h; done) | skip
    rename_i elt gens scope q
    have hsw : swapsWith (.ListComp elt gens scope q) (some (.Name x p)) sp.line X.env = pure (swV c x p scope q) := by
      unfold swV
      rw [← hx.sc]
      rfl
    cases hv : swV c x p scope q with
    | true =>
      rw [hv] at hsw
      have k2 : c.sc.names.lookup x = some .local := by
        simp only [swV, Bool.and_eq_true, beq_iff_eq] at hv
        exact hv.1.1.2
      cases e with
      | nev => exact ⟨fun pins s σ H D I ⟨So, O, ρ, B, hρ, w, hp⟩ => by
          simp only [Hm.S.go] at hp
          split at hp <;> exact False.elim hp⟩
      | lc el tg it cs =>
        have he' := he
        simp only [mE] at he
        split at he
        · rename_i eq
          cases eq
          simp only [Bool.and_eq_true] at he
          obtain ⟨g1, g2, g3, g4, g5, g6⟩ := he
          refine PS.imp (s_setLc hx (by rw [hx.N, hx.sc]; exact g2) g3 (sndIt it hx g4) (foldedSet_of g1 _) (fun X' hx' hK => sndTo cs hx' g5) (fun X' hx' hK => own_of hx' g6 (sndE el hx' g6)) (fun s H C cl fp => hx.blk) h1 (by rw [hx.sc]; exact k2) hsw) fun D σ H q => ?_
          exact rd_own (e := .lc el tg it cs) rfl (rd_set q)
        · cases he
      | tb t => simp [mE, plainT] at he
      | _ => simp [mE] at he
    | false =>
      rw [hv] at hsw
      exact plain hsw
mutual
theorem sndS : ∀ (s : Hm.S) {c : Ctx} {X : Cx} {W : WX} {a : Stmt}, StC m c X W → mS m.t s c a = true → PS X a (aS m X W ro s)
  | .set i e, c, X, W, a, hx, h => by
    simp only [mS] at h
    split at h
    · simp only [Bool.and_eq_true] at h
      exact sndSet hx.ok h.1 h.2.1 h.2.2
    · cases h
  | .setT tg e, c, X, W, a, hx, h => by
    simp only [mS] at h
    split at h
    · simp only [Bool.and_eq_true] at h
      obtain ⟨h1, h2, h3⟩ := h
      exact PS.imp (ps_asg (own_of hx.ok h3 (sndE e hx.ok h3)) (pg_of hx.ok.st h1) sw_tup (ss_tup h2)) fun D σ H q => rd_setT q
    · cases h
  | .expr e, c, X, W, a, hx, h => by
    simp only [mS] at h
    split at h
    · simp only [Bool.and_eq_true] at h
      exact PS.imp (ps_expr (sndE e hx.ok h.2) (sw_no h.1)) fun D σ H q => rd_expr q
    · cases h
  | .app i e, c, X, W, a, hx, h => by
    simp only [mS] at h
    split at h
    · simp only [Bool.and_eq_true, decide_eq_true_eq] at h
      obtain ⟨rfl, h1, h2, h3, h4⟩ := h
      obtain ⟨k1, k2, k3, k4⟩ := hx.ok.vis h2
      rename_i b _ _
      have st : starEach [b] X.env = (false, eval b X.env) :: starEach [] X.env := star_cons h3 [] X.env
      refine PS.imp (ps_expr (pe_bm PySem.F.plainAttrs_list PySem.F.slot_list_append PySem.F.type_list_append mt_append (pe_var k1 k2 k3 k4) (pa_cons (own_of hx.ok h4 (sndE e hx.ok h4)) pa_nil st) (attrB rfl) ?_ h1 st rfl) (by rfl)) fun D σ H q => rd_app q
      rw [st]
      rfl
    · cases h
  | .put i k e, c, X, W, a, hx, h => by
    simp only [mS] at h
    split at h
    · simp only [Bool.and_eq_true] at h
      obtain ⟨h1, h2, h3, h4⟩ := h
      obtain ⟨k1, k2, k3, k4⟩ := hx.ok.vis h1
      exact PS.imp (ps_asg (own_of hx.ok h4 (sndE e hx.ok h4)) (pg_sub (pe_var k1 k2 k3 k4) (sndE k hx.ok h3) (pset_put hx.ok.hu1) (assign_sub h2)) sw_sub (by rfl)) fun D σ H q => rd_put q
    · cases h
  | .ret e, c, X, W, a, hx, h => by
    simp only [mS] at h
    split at h
    · exact PS.imp (ps_ret (own_of hx.ok h (sndE e hx.ok h))) fun D σ H q => rd_ret q
    · split at h
      · exact PS.imp ps_retN fun D σ H q => rd_retN q
      · cases h
    · cases h
  | .iff k a b, c, X, W, st, hx, h => by
    simp only [mS] at h
    split at h
    · simp only [Bool.and_eq_true] at h
      exact PS.imp (ps_if (sndT k hx.ok h.1).1 (sndSs a hx h.2.1) (sndSs b hx h.2.2)) fun D σ H q => rd_iff q
    · cases h
  | .for_ tg it b, c, X, W, st, hx, h => by
    simp only [mS] at h
    split at h
    · simp only [Bool.and_eq_true] at h
      obtain ⟨h1, h2, h3, h4⟩ := h
      exact PS.imp (ps_for hx.po hx.ok.calm (sndIt it hx.ok h3) (pg_of hx.ok.st h2) (sndSs b hx h4) (foldedSet_of h1 _)) fun D σ H q => rd_for q
    · cases h
  | .whl k b, c, X, W, st, hx, h => by
    simp only [mS] at h
    split at h
    · simp only [Bool.and_eq_true] at h
      exact PS.imp (ps_while hx.po (sndT k hx.ok h.1).1 (sndSs b hx h.2)) fun D σ H q => rd_whl q
    · cases h
  | .pass, c, X, W, st, hx, h => by
    simp only [mS] at h
    split at h
    · exact PS.imp ps_pass fun D σ H q => rd_pass q
    · exact PS.imp ps_doc fun D σ H q => rd_pass q
    · cases h
  | .brk, c, X, W, st, hx, h => by
    simp only [mS] at h
    split at h
    · exact PS.imp ps_break fun D σ H q => rd_brk q
    · cases h
  | .cnt, c, X, W, st, hx, h => by
    simp only [mS] at h
    split at h
    · exact PS.imp ps_continue fun D σ H q => rd_cnt q
    · cases h
  | .nev, c, X, W, st, hx, h => ps_nev
theorem sndSs : ∀ (s : Ss) {c : Ctx} {X : Cx} {W : WX} {a : List Stmt}, StC m c X W → mSs m.t s c a = true → PSs X a (aSs m X W ro s)
  | .nil, c, X, W, [], hx, h => PSs.imp pss_nil fun D σ H q => rd_nil q
  | .nil, c, X, W, _ :: _, hx, h => by simp [mSs] at h
  | .cons s r, c, X, W, [], hx, h => by simp [mSs] at h
  | .cons s r, c, X, W, a :: l, hx, h => by
    simp only [mSs, Bool.and_eq_true] at h
    exact PSs.imp (pss_cons (sndS s hx h.1) (sndSs r hx h.2)) fun D σ H q => rd_cons q
end
end
end Hm
end
section
set_option Elab.async false
set_option linter.all false
set_option maxRecDepth 100000
/-! Defs. -/
namespace Hm
open PySem PySem.Spec PyProof.Rows L2
section
variable {K : PySem.W.Frag} {ca : CA} {S : Own} {H : Hp}
theorem RepE.nones : ∀ (n : Nat), RepE K ca S H (List.replicate n none) (List.replicate n none) []
  | 0 => .nil
  | n + 1 => .skip (RepE.nones n)
theorem Reps.start : ∀ {vs : List V} {ds : List D} {A : List Addr}, Reps K ca S H vs ds A → ∀ n : Nat, RepE K ca S H (vs.map some ++ List.replicate n none) (ds.map some ++ List.replicate n none) A
  | _, _, _, .nil, n => RepE.nones n
  | _, _, _, .cons p q, n => .cons p (q.start n)
theorem fin_of : ∀ {xs : List V} {σ : L2.St} {ρ : Ev} {B : List Addr} {g : Nat → Bool}, RepE K ca S H σ ρ B → (∀ i v, g i = true → xs[i]? = some v → σ[i]? = some (some v)) →
    ∃ B', RepE K ca S H (xs.map some) ((List.range xs.length).map fun i => if g i = true then (ρ[i]?).join else none) B' ∧ List.Sublist B' B := by
  intro xs
  induction xs with
  | nil => intro σ ρ B g r h; exact ⟨[], .nil, List.nil_sublist _⟩
  | cons x xs ih =>
    intro σ ρ B g r h
    rw [List.length_cons, List.range_succ_eq_map, List.map_cons, List.map_cons, List.map_map]
    have tl : ∀ {σ' : L2.St} {ρ' : Ev} {B' : List Addr} {y : Option V} {z : Option D}, σ = y :: σ' → ρ = z :: ρ' → RepE K ca S H σ' ρ' B' → ∃ B2, RepE K ca S H (xs.map some) ((List.range xs.length).map ((fun i => if g i = true then (ρ[i]?).join else none) ∘ Nat.succ)) B2 ∧ List.Sublist B2 B' := fun {σ' ρ' B' y z} e1 e2 r' => by
      obtain ⟨B2, h1, h2⟩ := ih (g := fun i => g (i + 1)) r' fun i v hg hv => by
        have := h (i + 1) v hg (by simpa using hv)
        rw [e1] at this
        simpa using this
      refine ⟨B2, ?_, h2⟩
      subst e2
      exact h1
    cases r with
    | nil =>
      have : (List.map ((fun i => if g i = true then (([] : Ev)[i]?).join else none) ∘ Nat.succ) (List.range xs.length)) = List.replicate xs.length none := by
        apply List.ext_getElem
        · simp
        · intro i h1 h2
          simp
      rw [this]
      have e0 : (if g 0 = true then (([] : Ev)[0]?).join else none) = none := by split <;> rfl
      rw [e0]
      refine ⟨[], .skip ?_, List.nil_sublist _⟩
      have q : ∀ (l : List V), RepE K ca S H (l.map some) (List.replicate l.length none) [] := fun l => by
        induction l with
        | nil => exact .nil
        | cons a l ih => exact .skip ih
      exact q xs
    | @skip y σ' ρ' A r' =>
      obtain ⟨B2, h1, h2⟩ := tl rfl rfl r'
      refine ⟨B2, ?_, h2⟩
      have e0 : (if g 0 = true then (((none :: ρ' : Ev))[0]?).join else none) = none := by split <;> rfl
      rw [e0]
      exact .skip h1
    | @cons v d σ' ρ' A B' p r' =>
      obtain ⟨B2, h1, h2⟩ := tl rfl rfl r'
      cases hg : g 0 with
      | false =>
        refine ⟨B2, ?_, h2.trans (List.sublist_append_right _ _)⟩
        rw [if_neg (by simp)]
        exact .skip h1
      | true =>
        have := h 0 x hg rfl
        simp at this
        subst this
        refine ⟨A ++ B2, ?_, (List.Sublist.refl _).append h2⟩
        rw [if_pos rfl]
        exact .cons p h1
end
/-- a def's text and what it is in the small language -/
structure DfT where
  d : Df
  x : Str
  qual : Str
  params : Arguments
  body : List Stmt
  scope : Scope
  N : List Str
  ps : List Str
def scB (N ps : List Str) (sc : Scope) : Bool :=
  fnKind sc.kind && (!sc.isCoroutine && (!sc.isGenerator && (decide N.Nodup && (decide (N.take ps.length = ps) && (ps.all (fun x => decide (sc.names.lookup x = some .local) || decide (sc.names.lookup x = some .cell)) && sc.names.all fun y => decide (y.2 ≠ .free))))))
theorem fnKind_of {k : ScopeKind} (h : fnKind k = true) : k = .function := by cases k <;> first | rfl | cases h
theorem scB_of {N ps : List Str} {sc : Scope} (h : scB N ps sc = true) : FnScope N ps sc := by
  simp only [scB, Bool.and_eq_true, Bool.not_eq_true', decide_eq_true_eq, List.all_eq_true, Bool.or_eq_true] at h
  obtain ⟨h1, h2, h3, h4, h5, h6, h7⟩ := h
  exact ⟨fnKind_of h1, h2, h3, h4, h5, h6, h7⟩
def DfT.ok (f : DfT) (t : Tab) : Bool := decide (f.d.np = f.ps.length) && (decide (f.d.ns = f.N.length) && (scB f.N f.ps f.scope && (mSs t f.d.body ⟨f.N, f.scope, fun _ => true⟩ f.body && decide (f.ps.length ≤ f.N.length))))
section
variable {P : Program} {w : World} {K : PySem.W.Frag} {mg : Str → Option Value} {base : Heap} {m : Pm} {f : DfT} {fa : Addr} {fd : FuncData} {kws : List (Str × V)}
theorem df_fn (hm : PmOk m P w K mg base) (h : f.ok m.t = true) (F : FunD K f.x f.qual f.params f.body f.scope [] kws fa fd) : FnOk P w K mg base (L2.CX P w) (m.k + 1) fa fd f.ps (spD K m.ca f.ps.length (f.d.run m.F)) := by
  simp only [DfT.ok, Bool.and_eq_true, decide_eq_true_eq] at h
  obtain ⟨h1, h2, h3, h4, h5⟩ := h
  refine F.ok (scB_of h3) (fun vs H Q E q => q.1) fun cdv A outer s H vs Q E room hsp => ?_
  obtain ⟨hl, So, O, ds, B, r, w, po⟩ := hsp
  have hx : StC m ⟨f.N, f.scope, fun _ => true⟩ (cxOf (L2.CX P ‹World›) P ‹World› K mg base f.N f.qual f.scope fa cdv A outer s H E) (fun cls d _ H => E cls d H) := 
    ⟨⟨hm, rfl, (scB_of h3).nd, rfl, rfl, rfl, room, takes_of rfl rfl rfl rfl⟩, passes_of (K := fun e s'' => L2.CX P ‹World› outer H s E e s'') rfl⟩
  refine ⟨_, sndSs (ro := f.d.ro) f.d.body hx h4, So, O, f.d.start ds, B, ?_, w, ?_⟩
  · have e : f.d.start ds = ds.map some ++ List.replicate (f.N.length - vs.length) none := by
      unfold Df.start
      rw [h2, r.length]
    rw [e]
    exact r.start _
  · show PostS _ _ _ _ _ _ _ _ _ (f.d.body.go m.F f.d.ro (f.d.start ds))
    have hdl : ds.length = f.d.np := by rw [← r.length, hl, h1]
    unfold Df.run at po
    rw [if_pos hdl] at po
    have fin : ∀ {σ' : L2.St} {ρ : Ev} {S' : Own} {H' : Hp} {B' : List Addr}, SameR f.d.ro (L2.start f.N vs) σ' → RepE K m.ca S' H' σ' ρ B' → ∃ B2, RepE K m.ca S' H' (vs.map some) (finOf f.d ρ) B2 ∧ List.Sublist B2 B' := fun {σ' ρ S' H' B'} sm re => by
      have := fin_of (xs := vs) (g := fun i => f.d.ro.contains i) re fun i v hg hv => by
        rw [sm i (by simpa using hg)]
        unfold L2.start
        rw [List.getElem?_append_left (by rw [List.length_map]; exact (List.getElem?_eq_some_iff.mp hv).1), List.getElem?_map, hv]
        rfl
      rw [hl, ← h1] at this
      exact this
    cases hb : f.d.body.go m.F f.d.ro (f.d.start ds) with
    | nx ρ =>
      rw [hb] at po
      intro σ' S' H' B' k1 k2 k3 k4 k5
      obtain ⟨B2, g1, g2⟩ := fin k3 k4
      exact po .non S' H' [] B2 k1 k2 .non g1 (k5.sub (g2.append (List.Sublist.refl _)))
    | ret d ρ =>
      rw [hb] at po
      intro v σ' S' H' A' B' k1 k2 k3 kv k4 k5
      obtain ⟨B2, g1, g2⟩ := fin k3 k4
      exact po v S' H' A' B2 k1 k2 kv g1 (k5.sub (((List.Sublist.refl _).append g2).append (List.Sublist.refl _)))
    | ex x ρ =>
      rw [hb] at po
      intro cls dd σ' S' H' A' B' k1 k2 k3 kv k4 k5
      exact po cls dd S' H' A' k1 k2 kv (k5.sub ((List.sublist_append_left _ _).append (List.Sublist.refl _)))
    | brk ρ => rw [hb] at po; exact po.elim
    | cnt ρ => rw [hb] at po; exact po.elim
    | bad => rw [hb] at po; exact po.elim
end
section
variable {P : Program} {w : World} {K : PySem.W.Frag} {mg : Str → Option Value} {base : Heap} {t : Tab} {ca : CA}
/-- all defs, so deep -/
theorem all_ok (fs : List DfT) (ht : t.fs = fs.map fun f => (f.x, f.ps.length)) (hok : fs.all (fun f => f.ok t) = true)
    (hd : ∀ f ∈ fs, ∃ fa fd kws, FunD K f.x f.qual f.params f.body f.scope [] kws fa fd ∧ mg f.x = some (.ref fa) ∧ Binds K fd f.ps [])
    (hc : ∀ x k, (x, k) ∈ t.cs → ∃ u, mg x = some u ∧ RelV (Cn.vl k) u) (hb : ∀ x ∈ t.bl, mg x = none) :
    ∀ n, PmOk ⟨t, ca, call (fs.map DfT.d) n, n⟩ P w K mg base
  | 0 => ⟨fun f x n e => by
      have e' : (fs.map fun f => (f.x, f.ps.length))[f]? = some (x, n) := ht ▸ e
      rw [List.getElem?_map] at e'
      obtain ⟨g, eg, e'⟩ := Option.map_eq_some_iff.mp e'
      cases e'
      obtain ⟨fa, fd, kws, F, h1, h2⟩ := hd g (List.mem_of_getElem? eg)
      refine ⟨fa, fd, g.ps, ⟨fun vs H Q E q => q.1, fun A outer s H args us vs Q E _ _ _ _ q => ?_⟩, h1, F.kp, h2⟩
      obtain ⟨_, _, _, _, _, _, _, po⟩ := q
      exact po.elim, hc, hb⟩
  | n + 1 => ⟨fun f x k e => by
      have e' : (fs.map fun f => (f.x, f.ps.length))[f]? = some (x, k) := ht ▸ e
      rw [List.getElem?_map] at e'
      obtain ⟨g, eg, e'⟩ := Option.map_eq_some_iff.mp e'
      cases e'
      obtain ⟨fa, fd, kws, F, h1, h2⟩ := hd g (List.mem_of_getElem? eg)
      have q := df_fn (all_ok fs ht hok hd hc hb n) (List.all_eq_true.mp hok g (List.mem_of_getElem? eg)) F
      have ec : call (fs.map DfT.d) (n + 1) f = g.d.run (call (fs.map DfT.d) n) := by
        funext ds
        show (match (fs.map DfT.d)[f]? with | some d => d.run (call (fs.map DfT.d) n) ds | none => .bad) = _
        rw [List.getElem?_map, eg]
        rfl
      refine ⟨fa, fd, g.ps, ?_, h1, F.kp, h2⟩
      rw [show (Pm.F ⟨t, ca, call (fs.map DfT.d) (n + 1), n + 1⟩ f) = g.d.run (call (fs.map DfT.d) n) from ec]
      exact q, hc, hb⟩
end
end Hm
end
section
set_option Elab.async false
set_option linter.all false
set_option maxRecDepth 100000
/-! From the head's facts to a law. -/
namespace Hm
open PySem PySem.Spec PyProof.Rows L2
def DfT.dd (f : DfT) : He.DefD := ⟨(f.x, none), f.x, f.qual, f.params, f.body, f.scope, [], []⟩
def BindP (f : DfT) : Prop := ∀ (kV doc pm : Value) (an : Option Addr) (cdv ct : Value) (us : List Value), us.length = f.ps.length → bindArgs (PySem.W.fnOf f.x f.qual f.params f.body f.scope .none kV doc pm an cdv ct) ⟨us, []⟩ = pure (f.ps.zip us)
def AllB : List DfT → Prop
  | [] => True
  | f :: r => BindP f ∧ AllB r
theorem AllB.get : ∀ {l : List DfT}, AllB l → ∀ f ∈ l, BindP f
  | [], _, f, h => nomatch h
  | g :: r, ⟨h1, h2⟩, f, h => (List.mem_cons.mp h).elim (fun e => e ▸ h1) (h2.get f)
def csFa (p : Str × Cn) : He.Fa := match p.2 with
  | .int i => .int p.1 i
  | .str z => .str p.1 z
  | _ => .glo p.1
def csOk (p : Str × Cn) : Bool := match p.2 with
  | .int _ => true
  | .str _ => true
  | _ => false
def tabFa (t : Tab) : List He.Fa := t.fs.map (fun p => .glo p.1) ++ (t.bl.map He.Fa.free ++ t.cs.map csFa)
theorem pm_of {P : Program} {w : World} {K : PySem.W.Frag} {mg : Str → Option Value} {base : Heap} {t : Tab} {ca : CA} {fs : List DfT} (ht : t.fs = fs.map fun f => (f.x, f.ps.length)) (hok : fs.all (fun f => f.ok t) = true) (hB : AllB fs) (hcs : t.cs.all csOk = true)
    (X : K.In base) (G : base.Ns mainGlobals mg) (c : He.SaysD (tabFa t) (fs.map DfT.dd) K) (n : Nat) : PmOk ⟨t, ca, call (fs.map DfT.d) n, n⟩ P w K mg base := by
  refine all_ok fs ht hok (fun f hf => ?_) (fun x k h => ?_) (fun x h => ?_) n
  · obtain ⟨fd, F⟩ := c.defs (List.mem_map_of_mem (f := DfT.dd) hf)
    have F : FunD K f.x f.qual f.params f.body f.scope [] [] (He.fAd K (f.x, none)) fd := F
    refine ⟨_, fd, [], F, He.glo_ok X G (c.facts (List.mem_append_left _ ?_)), F.bindsN (hB.get f hf)⟩
    rw [ht]
    exact List.mem_map.mpr ⟨_, List.mem_map_of_mem hf, rfl⟩
  · have q := c.facts (f := csFa (x, k)) (List.mem_append_right _ (List.mem_append_right _ (List.mem_map_of_mem (f := csFa) h)))
    have z := List.all_eq_true.mp hcs _ h
    cases k with
    | int i => 
      obtain ⟨tk, e⟩ := He.int_ok X G q
      exact ⟨_, e, ⟨tk, rfl⟩⟩
    | str i => 
      obtain ⟨tk, e⟩ := He.str_ok X G q
      exact ⟨_, e, ⟨tk, rfl⟩⟩
    | non => cases z
    | bl b => cases z
  · exact He.free_ok X G (c.facts (List.mem_append_right _ (List.mem_append_left _ (List.mem_map_of_mem (f := He.Fa.free) h))))
/-- a law's end -/
theorem law_end {l : PySem.W.OpenLaw} {n k li : Nat} {q : Program} {loose : List Str} {XP : (Str → Option Value) → Heap → Prop} {YP : World → Heap → Prop} {d : DefRec} {t : Tab} {fs : List DfT} {lf : DfT} {x : Str}
    (hn : l.most = some n) (hn2 : n ≤ sizeLine) (hdf : d.params.defaults = []) (hr : Room (k + 1) callerA)
    (hY : ∀ (w : World) (h : Heap), YP w h → ∃ K, K.In h ∧ He.SaysD (tabFa t) (fs.map DfT.dd) K)
    (ht : t.fs = fs.map fun f => (f.x, f.ps.length)) (hok : fs.all (fun f => f.ok t) = true) (hB : AllB fs) (hcs : t.cs.all csOk = true)
    (hl : fs[li]? = some lf) (hx : lf.ps = [x]) (hnm : d.name = lf.x)
    (hlaw : ∀ ns : List Int, ns.length ≤ n → (∀ z ∈ ns, Builtin.Int.intBits z ≤ 1048576) → ∃ fin, call (fs.map DfT.d) (k + 1) li [.scr ns] = .ok (.bl true) fin) :
    PySem.W.WalkO q loose XP YP l.row.toRowW d [] (fun f vs => PySem.call f vs) := by
  refine LamX.walk_ofTsE (k := k + 1) (CX := fun w => L2.CX l.prog w) (x := x) hn hn2 hdf hr (fun w mg fa h Y G hfa => ?_) (fun w H s e s' c => ?_)
  · obtain ⟨K, KX, c⟩ := hY w h Y
    obtain ⟨fd, F⟩ := c.defs (List.mem_map_of_mem (f := DfT.dd) (List.mem_of_getElem? hl))
    have F : FunD K lf.x lf.qual lf.params lf.body lf.scope [] [] (He.fAd K (lf.x, none)) fd := F
    have eg : mg lf.x = some (.ref (He.fAd K (lf.x, none))) := He.glo_ok KX G (c.facts (List.mem_append_left _ (by
      rw [ht]
      exact List.mem_map.mpr ⟨_, List.mem_map_of_mem (List.mem_of_getElem? hl), rfl⟩)))
    rw [hnm] at hfa
    have e := hfa.symm.trans eg
    cases e
    have b := FunD.bindsA F (hB.get lf (List.mem_of_getElem? hl))
    refine ⟨K, KX, fd, [], spD K (fun _ => 0) 1 (lf.d.run (call (fs.map DfT.d) k)), fun p hp => (nomatch hp), fun p hp => (nomatch hp), fun p hp => (nomatch hp), fun s v => ?_, fun H a ns h1 h2 _ hS => ?_, fun base KX2 G2 _ => ?_⟩
    · have := b s [v] (by rw [hx]; rfl)
      rw [hx] at this
      exact this
    · obtain ⟨fin, ef⟩ := hlaw ns h1 h2
      have ec : call (fs.map DfT.d) (k + 1) li [.scr ns] = lf.d.run (call (fs.map DfT.d) k) [.scr ns] := by
        show (match (fs.map DfT.d)[li]? with | some d => d.run (call (fs.map DfT.d) k) [.scr ns] | none => .bad) = _
        rw [List.getElem?_map, hl]
        rfl
      rw [ec] at ef
      have q : Rep K (fun _ => 0) (fun b => b = a ∧ ∃ o, H b = some o) H (.ref a) (.scr ns) [] := by
        rcases hS with h | ⟨o, its, m, g1, g2, g3, g4, g5, g6⟩
        · refine .scrS ⟨rfl, ?_⟩ h
          rcases h with h | ⟨o, h⟩ <;> exact ⟨_, h⟩
        · exact .scrW ⟨o, its, m, g1, g2, g3, g4, g5, g6⟩
      refine ⟨rfl, (fun b => b = a ∧ ∃ o, H b = some o), [], [.scr ns], [], Reps.one q, ⟨List.nodup_nil, fun a h => (nomatch h), fun a h => h.2⟩, ?_⟩
      rw [ef]
      intro v S' H' A B _ _ rv _ _
      exact rv.bl_
    · have pm := pm_of (P := l.prog) (w := w) (ca := fun _ => 0) ht hok hB hcs KX2 G2 c k
      have q := df_fn pm (List.all_eq_true.mp hok lf (List.mem_of_getElem? hl)) F
      rw [hx] at q
      exact q
  · obtain ⟨_, _, _, _, _, _, _, _, _, _, _, _, h⟩ := c
    exact h
end Hm
end
section
set_option Elab.async false
set_option linter.all false
set_option maxRecDepth 100000
/-! The evaluators once more, without binders: for simp. -/
namespace Hm
open PySem PySem.Spec L2
variable {F : Orc} {ro : List Nat}
/-! ### values -/
def kOp (f : Option D) (lo : Bool) (ρ : Ev) : R (D × Bool) := match f with
  | some d => .ok (d, lo) ρ
  | none => .bad
theorem kOp_s {d : D} {lo : Bool} {ρ : Ev} : kOp (some d) lo ρ = .ok (d, lo) ρ := rfl
theorem kOp_n {lo : Bool} {ρ : Ev} : kOp none lo ρ = .bad := rfl
theorem opt_kOp {f : Option D} {lo : Bool} {ρ : Ev} : R.opt (f.map (·, lo)) ρ = kOp f lo ρ := by cases f <;> rfl
def kV (x : Option (Option D)) (ρ : Ev) : R (D × Bool) := match x with
  | some (some d) => .ok (d, true) ρ
  | _ => .bad
def kMv (i : Nat) (x : Option (Option D)) (ρ : Ev) : R (D × Bool) := match x with
  | some (some d) => .ok (d, false) (ρ.set i none)
  | _ => .bad
def kSv (i : Nat) (x : Option (Option D)) (ρ : Ev) : R (D × Bool) := match x with
  | some (some d) => .ok (d.clr, false) (ρ.set i (some d.clr))
  | _ => .bad
def kU (o : U1) : R (D × Bool) → R (D × Bool)
  | .ok d ρ => kOp (o.go d.1) false ρ
  | .ex x ρ => .ex x ρ
  | .bad => .bad
def kB2 (o : B2) (a : D) : R (D × Bool) → R (D × Bool)
  | .ok b ρ => kOp (o.go a b.1) false ρ
  | .ex x ρ => .ex x ρ
  | .bad => .bad
def kB1 (F : Orc) (o : B2) (y : E) : R (D × Bool) → R (D × Bool)
  | .ok a ρ => if held a.1 a.2 y = true then kB2 o a.1 (y.go F ρ) else .bad
  | .ex x ρ => .ex x ρ
  | .bad => .bad
def kI2 (a : D × Bool) : R (D × Bool) → R (D × Bool)
  | .ok b ρ => kOp (ixD a.1 b.1) a.2 ρ
  | .ex x ρ => .ex x ρ
  | .bad => .bad
def kI1 (F : Orc) (y : E) : R (D × Bool) → R (D × Bool)
  | .ok a ρ => if held a.1 a.2 y = true then kI2 a (y.go F ρ) else .bad
  | .ex x ρ => .ex x ρ
  | .bad => .bad
def kS3 (a : D) (l : Option Int) : R (Option Int) → R (D × Bool)
  | .ok h ρ => kOp (slD a l h) false ρ
  | .ex x ρ => .ex x ρ
  | .bad => .bad
def kS2 (F : Orc) (a : D) (hi : Eo) : R (Option Int) → R (D × Bool)
  | .ok l ρ => kS3 a l (hi.go F ρ)
  | .ex x ρ => .ex x ρ
  | .bad => .bad
def kS1 (F : Orc) (lo hi : Eo) : R (D × Bool) → R (D × Bool)
  | .ok a ρ => if (!a.2 || a.1.isC || (lo.pu && hi.pu)) = true then kS2 F a.1 hi (lo.go F ρ) else .bad
  | .ex x ρ => .ex x ρ
  | .bad => .bad
def kC3 (p : B2) (b : D) : R (D × Bool) → R (D × Bool)
  | .ok c ρ => kOp (p.go b c.1) false ρ
  | .ex x ρ => .ex x ρ
  | .bad => .bad
def kC2' (F : Orc) (p : B2) (z : E) (b : D) (ρ : Ev) : Option D → R (D × Bool)
  | some (.bl true) => kC3 p b (z.go F ρ)
  | some (.bl false) => .ok (.bl false, false) ρ
  | _ => .bad
def kC2 (F : Orc) (o p : B2) (z : E) (a : D) : R (D × Bool) → R (D × Bool)
  | .ok b ρ => kC2' F p z b.1 ρ (o.go a b.1)
  | .ex x ρ => .ex x ρ
  | .bad => .bad
def kC1 (F : Orc) (o p : B2) (y z : E) : R (D × Bool) → R (D × Bool)
  | .ok a ρ => kC2 F o p z a.1 (y.go F ρ)
  | .ex x ρ => .ex x ρ
  | .bad => .bad
def kTb : R Bool → R (D × Bool)
  | .ok b ρ => .ok (.bl b, false) ρ
  | .ex x ρ => .ex x ρ
  | .bad => .bad
def kIf (F : Orc) (x y : E) : R Bool → R (D × Bool)
  | .ok true ρ => x.go F ρ
  | .ok false ρ => y.go F ρ
  | .ex x ρ => .ex x ρ
  | .bad => .bad
def kTup : R (List D) → R (D × Bool)
  | .ok ds ρ => kOp (mkTup ds) false ρ
  | .ex x ρ => .ex x ρ
  | .bad => .bad
def kLst : R (List D) → R (D × Bool)
  | .ok ds ρ => kOp (mkLst ds) false ρ
  | .ex x ρ => .ex x ρ
  | .bad => .bad
def kCall (F : Orc) (f : Nat) : R (List Arg) → R (D × Bool)
  | .ok as ρ => callR F f as ρ
  | .ex x ρ => .ex x ρ
  | .bad => .bad
def kX2 (xs : List D) : R (D × Bool) → R (D × Bool)
  | .ok b ρ => if b.1.flat = true ∧ xs.all D.flat = true then (match xs.findIdx? fun z => eqF z b.1 with
    | some j => .ok (.int (j : Nat), false) ρ
    | none => .bad) else .bad
  | .ex x ρ => .ex x ρ
  | .bad => .bad
def kX1 (F : Orc) (y : E) : R (D × Bool) → R (D × Bool)
  | .ok (.lst o xs, lo) ρ => if held (.lst o xs) lo y = true then kX2 xs (y.go F ρ) else .bad
  | .ok _ _ => .bad
  | .ex x ρ => .ex x ρ
  | .bad => .bad
def lcG (F : Orc) (tg : List Nat) (el : E) (cs : To) (xs : List (List D)) (ρ : Ev) (acc : List D) : R (List D) := lcGo tg (fun ρ => (el.go F ρ).bnd fun d ρ => own el d.1 d.2 ρ) (fun ρ => cs.tst F ρ) xs ρ acc
def kL2 : R (List D) → R (D × Bool)
  | .ok ds ρ => .ok (.lst true ds, false) ρ
  | _ => .bad
def kL1 (F : Orc) (tg : List Nat) (el : E) (cs : To) : R (List (List D)) → R (D × Bool)
  | .ok xs ρ => kL2 (lcG F tg el cs xs (wipeE ρ tg) [])
  | .ex x ρ => .ex x ρ
  | .bad => .bad
def kLr : R (D × Bool) → R (D × Bool)
  | .ok (.int j, _) ρ => if 0 ≤ j ∧ j ≤ 16777216 then .ok (.lst true ((List.range j.toNat).map fun (i : Nat) => .int i), false) ρ else .bad
  | .ok _ _ => .bad
  | .ex x ρ => .ex x ρ
  | .bad => .bad
def kOwn (e : E) : R (D × Bool) → R D
  | .ok d ρ => own e d.1 d.2 ρ
  | .ex x ρ => .ex x ρ
  | .bad => .bad
theorem go_c {k : Cn} {ρ : Ev} : E.go F (.c k) ρ = .ok (k.d, false) ρ := rfl
theorem go_g {x : Str} {k : Cn} {ρ : Ev} : E.go F (.g x k) ρ = .ok (k.d, false) ρ := rfl
theorem go_v {i : Nat} {ρ : Ev} : E.go F (.v i) ρ = kV ρ[i]? ρ := rfl
theorem go_mv {i : Nat} {ρ : Ev} : E.go F (.mv i) ρ = kMv i ρ[i]? ρ := rfl
theorem go_sv {i : Nat} {ρ : Ev} : E.go F (.sv i) ρ = kSv i ρ[i]? ρ := rfl
theorem go_u {o : U1} {a : E} {ρ : Ev} : E.go F (.u o a) ρ = kU o (a.go F ρ) := by
  simp only [E.go]
  cases a.go F ρ with
  | ok d ρ => exact opt_kOp
  | _ => rfl
theorem go_b {o : B2} {x y : E} {ρ : Ev} : E.go F (.b o x y) ρ = kB1 F o y (x.go F ρ) := by
  simp only [E.go]
  cases x.go F ρ with
  | ok a ρ =>
    show (if held a.1 a.2 y = true then _ else _) = if held a.1 a.2 y = true then _ else _
    split
    · cases y.go F ρ with
      | ok b ρ => exact opt_kOp
      | _ => rfl
    · rfl
  | _ => rfl
theorem go_ix {x y : E} {ρ : Ev} : E.go F (.ix x y) ρ = kI1 F y (x.go F ρ) := by
  simp only [E.go]
  cases x.go F ρ with
  | ok a ρ =>
    show (if held a.1 a.2 y = true then _ else _) = if held a.1 a.2 y = true then _ else _
    split
    · cases y.go F ρ with
      | ok b ρ => exact opt_kOp
      | _ => rfl
    · rfl
  | _ => rfl
theorem go_sl {x : E} {lo hi : Eo} {ρ : Ev} : E.go F (.sl x lo hi) ρ = kS1 F lo hi (x.go F ρ) := by
  simp only [E.go]
  cases x.go F ρ with
  | ok a ρ =>
    show (if (!a.2 || a.1.isC || (lo.pu && hi.pu)) = true then _ else _) = if (!a.2 || a.1.isC || (lo.pu && hi.pu)) = true then _ else _
    split
    · cases lo.go F ρ with
      | ok l ρ =>
        show ((hi.go F ρ).bnd _) = kS3 a.1 l (hi.go F ρ)
        cases hi.go F ρ with
        | ok h ρ => exact opt_kOp
        | _ => rfl
      | _ => rfl
    · rfl
  | _ => rfl
theorem go_ch {o p : B2} {x y z : E} {ρ : Ev} : E.go F (.ch o p x y z) ρ = if (y.pu && z.pu) = true then kC1 F o p y z (x.go F ρ) else .bad := by
  simp only [E.go]
  split
  case isFalse => rfl
  cases x.go F ρ with
  | ok a ρ =>
    show ((y.go F ρ).bnd _) = kC2 F o p z a.1 (y.go F ρ)
    cases y.go F ρ with
    | ok b ρ =>
      show (match o.go a.1 b.1 with | some (.bl true) => _ | some (.bl false) => _ | _ => _) = kC2' F p z b.1 ρ (o.go a.1 b.1)
      unfold kC2'
      split
      · cases z.go F ρ with
        | ok c ρ => exact opt_kOp
        | _ => rfl
      · rfl
      · rfl
    | _ => rfl
  | _ => rfl
theorem go_tb {t : T} {ρ : Ev} : E.go F (.tb t) ρ = kTb (t.val F ρ) := by simp only [E.go]; cases t.val F ρ <;> rfl
theorem go_ife {c : T} {x y : E} {ρ : Ev} : E.go F (.ife c x y) ρ = kIf F x y (c.tst F ρ) := by
  simp only [E.go]
  cases c.tst F ρ with
  | ok b ρ => cases b <;> rfl
  | _ => rfl
theorem go_tup {es : Es} {ρ : Ev} : E.go F (.tup es) ρ = kTup (es.go F ρ) := by
  simp only [E.go]
  cases es.go F ρ with
  | ok ds ρ => exact opt_kOp
  | _ => rfl
theorem go_lst {es : Es} {ρ : Ev} : E.go F (.lst es) ρ = kLst (es.go F ρ) := by
  simp only [E.go]
  cases es.go F ρ with
  | ok ds ρ => exact opt_kOp
  | _ => rfl
theorem go_call {f : Nat} {es : Es} {ρ : Ev} : E.go F (.call f es) ρ = kCall F f (es.args F ρ) := by simp only [E.go]; cases es.args F ρ <;> rfl
theorem go_idx {x y : E} {ρ : Ev} : E.go F (.idx x y) ρ = kX1 F y (x.go F ρ) := by
  simp only [E.go]
  cases x.go F ρ with
  | ok a ρ =>
    obtain ⟨d, lo⟩ := a
    cases d <;> try rfl
    rename_i o xs
    show (if held (.lst o xs) lo y = true then _ else _) = if held (.lst o xs) lo y = true then _ else _
    split
    · cases y.go F ρ with
      | ok b ρ =>
        show R.opt (if _ then _ else _) ρ = if _ then _ else _
        split
        · cases List.findIdx? (fun z => eqF z b.1) xs <;> rfl
        · rfl
      | _ => rfl
    · rfl
  | _ => rfl
theorem go_lc {el : E} {tg : List Nat} {it : It} {cs : To} {ρ : Ev} : E.go F (.lc el tg it cs) ρ = kL1 F tg el cs (it.go F ρ) := by
  simp only [E.go]
  cases it.go F ρ with
  | ok xs ρ =>
    show (R.nox (lcGo tg _ _ xs (wipeE ρ tg) [])).bnd _ = kL2 (lcGo tg _ _ xs (wipeE ρ tg) [])
    cases lcGo tg (fun ρ => (el.go F ρ).bnd fun d ρ => own el d.1 d.2 ρ) (fun ρ => cs.tst F ρ) xs (wipeE ρ tg) [] <;> rfl
  | _ => rfl
theorem go_dE {ρ : Ev} : E.go F .dE ρ = .ok (.dK true [] [], false) ρ := rfl
theorem go_lr {e : E} {ρ : Ev} : E.go F (.lr e) ρ = kLr (e.go F ρ) := by
  simp only [E.go]
  cases e.go F ρ with
  | ok a ρ =>
    obtain ⟨d, lo⟩ := a
    cases d <;> rfl
  | _ => rfl
/-! ### tests -/
def kAn (F : Orc) (y : T) : R Bool → R Bool
  | .ok true ρ => y.tst F ρ
  | .ok false ρ => .ok false ρ
  | .ex x ρ => .ex x ρ
  | .bad => .bad
def kOr (F : Orc) (y : T) : R Bool → R Bool
  | .ok true ρ => .ok true ρ
  | .ok false ρ => y.tst F ρ
  | .ex x ρ => .ex x ρ
  | .bad => .bad
def kNt : R Bool → R Bool
  | .ok b ρ => .ok (!b) ρ
  | .ex x ρ => .ex x ρ
  | .bad => .bad
def kTr' (ρ : Ev) : Option Bool → R Bool
  | some b => .ok b ρ
  | none => .bad
def kTr : R (D × Bool) → R Bool
  | .ok d ρ => kTr' ρ (truD d.1)
  | .ex x ρ => .ex x ρ
  | .bad => .bad
def kAnV (F : Orc) (y : T) : R Bool → R Bool
  | .ok true ρ => y.val F ρ
  | .ok false ρ => .ok false ρ
  | .ex x ρ => .ex x ρ
  | .bad => .bad
def kOrV (F : Orc) (y : T) : R Bool → R Bool
  | .ok true ρ => .ok true ρ
  | .ok false ρ => y.val F ρ
  | .ex x ρ => .ex x ρ
  | .bad => .bad
def kVl : R (D × Bool) → R Bool
  | .ok (.bl b, _) ρ => .ok b ρ
  | .ok _ _ => .bad
  | .ex x ρ => .ex x ρ
  | .bad => .bad
theorem tst_an {x y : T} {ρ : Ev} : T.tst F (.an x y) ρ = kAn F y (x.tst F ρ) := by
  simp only [T.tst]
  cases x.tst F ρ with
  | ok b ρ => cases b <;> rfl
  | _ => rfl
theorem tst_or {x y : T} {ρ : Ev} : T.tst F (.or x y) ρ = kOr F y (x.tst F ρ) := by
  simp only [T.tst]
  cases x.tst F ρ with
  | ok b ρ => cases b <;> rfl
  | _ => rfl
theorem tst_nt {x : T} {ρ : Ev} : T.tst F (.nt x) ρ = kNt (x.tst F ρ) := by simp only [T.tst]; cases x.tst F ρ <;> rfl
theorem tst_one {x : T} {ρ : Ev} : T.tst F (.one x) ρ = x.tst F ρ := rfl
theorem tst_e {e : E} {ρ : Ev} : T.tst F (.e e) ρ = kTr (e.go F ρ) := by
  simp only [T.tst]
  cases e.go F ρ with
  | ok d ρ => show R.opt (truD d.1) ρ = kTr' ρ (truD d.1); cases truD d.1 <;> rfl
  | _ => rfl
theorem val_an {x y : T} {ρ : Ev} : T.val F (.an x y) ρ = kAnV F y (x.val F ρ) := by
  simp only [T.val]
  cases x.val F ρ with
  | ok b ρ => cases b <;> rfl
  | _ => rfl
theorem val_or {x y : T} {ρ : Ev} : T.val F (.or x y) ρ = kOrV F y (x.val F ρ) := by
  simp only [T.val]
  cases x.val F ρ with
  | ok b ρ => cases b <;> rfl
  | _ => rfl
theorem val_nt {x : T} {ρ : Ev} : T.val F (.nt x) ρ = kNt (x.val F ρ) := by simp only [T.val]; cases x.val F ρ <;> rfl
theorem val_one {x : T} {ρ : Ev} : T.val F (.one x) ρ = x.val F ρ := rfl
theorem val_e {e : E} {ρ : Ev} : T.val F (.e e) ρ = kVl (e.go F ρ) := by
  simp only [T.val]
  cases e.go F ρ with
  | ok d ρ => obtain ⟨d, lo⟩ := d; cases d <;> rfl
  | _ => rfl
/-! ### lists of expressions -/
def kEo : R (D × Bool) → R (Option Int)
  | .ok (.int i, _) ρ => .ok (some i) ρ
  | .ok _ _ => .bad
  | .ex x ρ => .ex x ρ
  | .bad => .bad
theorem eo_no {ρ : Ev} : Eo.go F .no ρ = .ok none ρ := rfl
theorem eo_yes {e : E} {ρ : Ev} : Eo.go F (.yes e) ρ = kEo (e.go F ρ) := by
  simp only [Eo.go]
  cases e.go F ρ with
  | ok d ρ => obtain ⟨d, lo⟩ := d; cases d <;> rfl
  | _ => rfl
theorem to_no {ρ : Ev} : To.tst F .no ρ = .ok true ρ := rfl
theorem to_yes {e : T} {ρ : Ev} : To.tst F (.yes e) ρ = e.tst F ρ := rfl
def kEs2 (d : D) : R (List D) → R (List D)
  | .ok ds ρ => .ok (d :: ds) ρ
  | .ex x ρ => .ex x ρ
  | .bad => .bad
def kEs1 (F : Orc) (r : Es) : R D → R (List D)
  | .ok d ρ => kEs2 d (r.go F ρ)
  | .ex x ρ => .ex x ρ
  | .bad => .bad
theorem es_nil {ρ : Ev} : Es.go F .nil ρ = .ok [] ρ := rfl
theorem es_cons {e : E} {r : Es} {ρ : Ev} : Es.go F (.cons e r) ρ = kEs1 F r (kOwn e (e.go F ρ)) := by
  simp only [Es.go]
  cases e.go F ρ with
  | ok d ρ =>
    show ((own e d.1 d.2 ρ).bnd _) = kEs1 F r (own e d.1 d.2 ρ)
    cases own e d.1 d.2 ρ with
    | ok d ρ =>
      show ((r.go F ρ).bnd _) = kEs2 d (r.go F ρ)
      cases r.go F ρ <;> rfl
    | _ => rfl
  | _ => rfl
def kAs2 (d : Arg) : R (List Arg) → R (List Arg)
  | .ok ds ρ => .ok (d :: ds) ρ
  | .ex x ρ => .ex x ρ
  | .bad => .bad
def kAs1 (F : Orc) (r : Es) : R D → R (List Arg)
  | .ok d ρ => kAs2 (.d d) (r.args F ρ)
  | .ex x ρ => .ex x ρ
  | .bad => .bad
def E.isA' : E → Bool
  | .io _ => true
  | .ln _ => true
  | _ => false
theorem as_nil {ρ : Ev} : Es.args F .nil ρ = .ok [] ρ := rfl
theorem as_io {i : Nat} {r : Es} {ρ : Ev} : Es.args F (.cons (.io i) r) ρ = if ((ρ[i]?).join).isSome = true then kAs2 (.io i) (r.args F ρ) else .bad := by
  simp only [Es.args]
  split
  · cases r.args F ρ <;> rfl
  · rfl
theorem as_ln {i : Nat} {r : Es} {ρ : Ev} : Es.args F (.cons (.ln i) r) ρ = if ((ρ[i]?).join).isSome = true then kAs2 (.ln i) (r.args F ρ) else .bad := by
  simp only [Es.args]
  split
  · cases r.args F ρ <;> rfl
  · rfl
theorem as_d {e : E} {r : Es} {ρ : Ev} (h : e.isA' = false) : Es.args F (.cons e r) ρ = kAs1 F r (kOwn e (e.go F ρ)) := by
  have q : Es.args F (.cons e r) ρ = (e.go F ρ).bnd fun d ρ => (own e d.1 d.2 ρ).bnd fun d ρ => (r.args F ρ).bnd fun ds ρ => .ok (.d d :: ds) ρ := by
    cases e <;> first | rfl | (simp [E.isA'] at h)
  rw [q]
  cases e.go F ρ with
  | ok d ρ =>
    show ((own e d.1 d.2 ρ).bnd _) = kAs1 F r (own e d.1 d.2 ρ)
    cases own e d.1 d.2 ρ with
    | ok d ρ =>
      show ((r.args F ρ).bnd _) = kAs2 (.d d) (r.args F ρ)
      cases r.args F ρ <;> rfl
    | _ => rfl
  | _ => rfl
theorem as_c {k : Cn} {r : Es} {ρ : Ev} : Es.args F (.cons (.c k) r) ρ = kAs1 F r (kOwn (.c k) (E.go F (.c k) ρ)) := as_d rfl
theorem as_g {x : Str} {k : Cn} {r : Es} {ρ : Ev} : Es.args F (.cons (.g x k) r) ρ = kAs1 F r (kOwn (.g x k) (E.go F (.g x k) ρ)) := as_d rfl
theorem as_v {i : Nat} {r : Es} {ρ : Ev} : Es.args F (.cons (.v i) r) ρ = kAs1 F r (kOwn (.v i) (E.go F (.v i) ρ)) := as_d rfl
theorem as_mv {i : Nat} {r : Es} {ρ : Ev} : Es.args F (.cons (.mv i) r) ρ = kAs1 F r (kOwn (.mv i) (E.go F (.mv i) ρ)) := as_d rfl
theorem as_u {o : U1} {a : E} {r : Es} {ρ : Ev} : Es.args F (.cons (.u o a) r) ρ = kAs1 F r (kOwn (.u o a) (E.go F (.u o a) ρ)) := as_d rfl
theorem as_b {o : B2} {x y : E} {r : Es} {ρ : Ev} : Es.args F (.cons (.b o x y) r) ρ = kAs1 F r (kOwn (.b o x y) (E.go F (.b o x y) ρ)) := as_d rfl
theorem as_ix {x y : E} {r : Es} {ρ : Ev} : Es.args F (.cons (.ix x y) r) ρ = kAs1 F r (kOwn (.ix x y) (E.go F (.ix x y) ρ)) := as_d rfl
theorem as_sl {x : E} {lo hi : Eo} {r : Es} {ρ : Ev} : Es.args F (.cons (.sl x lo hi) r) ρ = kAs1 F r (kOwn (.sl x lo hi) (E.go F (.sl x lo hi) ρ)) := as_d rfl
theorem as_ch {o p : B2} {x y z : E} {r : Es} {ρ : Ev} : Es.args F (.cons (.ch o p x y z) r) ρ = kAs1 F r (kOwn (.ch o p x y z) (E.go F (.ch o p x y z) ρ)) := as_d rfl
theorem as_tb {t : T} {r : Es} {ρ : Ev} : Es.args F (.cons (.tb t) r) ρ = kAs1 F r (kOwn (.tb t) (E.go F (.tb t) ρ)) := as_d rfl
theorem as_ife {c : T} {x y : E} {r : Es} {ρ : Ev} : Es.args F (.cons (.ife c x y) r) ρ = kAs1 F r (kOwn (.ife c x y) (E.go F (.ife c x y) ρ)) := as_d rfl
theorem as_tup {es : Es} {r : Es} {ρ : Ev} : Es.args F (.cons (.tup es) r) ρ = kAs1 F r (kOwn (.tup es) (E.go F (.tup es) ρ)) := as_d rfl
theorem as_lst {es : Es} {r : Es} {ρ : Ev} : Es.args F (.cons (.lst es) r) ρ = kAs1 F r (kOwn (.lst es) (E.go F (.lst es) ρ)) := as_d rfl
theorem as_call {f : Nat} {es : Es} {r : Es} {ρ : Ev} : Es.args F (.cons (.call f es) r) ρ = kAs1 F r (kOwn (.call f es) (E.go F (.call f es) ρ)) := as_d rfl
theorem as_idx {x y : E} {r : Es} {ρ : Ev} : Es.args F (.cons (.idx x y) r) ρ = kAs1 F r (kOwn (.idx x y) (E.go F (.idx x y) ρ)) := as_d rfl
theorem as_lc {el : E} {tg : List Nat} {it : It} {cs : To} {r : Es} {ρ : Ev} : Es.args F (.cons (.lc el tg it cs) r) ρ = kAs1 F r (kOwn (.lc el tg it cs) (E.go F (.lc el tg it cs) ρ)) := as_d rfl
theorem as_dE  {r : Es} {ρ : Ev} : Es.args F (.cons (.dE) r) ρ = kAs1 F r (kOwn (.dE) (E.go F (.dE) ρ)) := as_d rfl
theorem as_sv {i : Nat} {r : Es} {ρ : Ev} : Es.args F (.cons (.sv i) r) ρ = kAs1 F r (kOwn (.sv i) (E.go F (.sv i) ρ)) := as_d rfl
theorem as_lr {e : E} {r : Es} {ρ : Ev} : Es.args F (.cons (.lr e) r) ρ = kAs1 F r (kOwn (.lr e) (E.go F (.lr e) ρ)) := as_d rfl
/-! ### what a loop walks -/
def kW (ρ : Ev) : Option (List D) → R (List (List D))
  | some xs => .ok (xs.map fun x => [x]) ρ
  | none => .bad
def kSq : R D → R (List (List D))
  | .ok d ρ => kW ρ d.iter
  | .ex x ρ => .ex x ρ
  | .bad => .bad
def kScr : R (D × Bool) → R (List (List D))
  | .ok (.scr ns, _) ρ => .ok (ns.map fun x => [.int x]) ρ
  | .ok _ _ => .bad
  | .ex x ρ => .ex x ρ
  | .bad => .bad
def kRg : R (D × Bool) → R (List (List D))
  | .ok (.int j, _) ρ => if -(2 ^ 62) ≤ j ∧ j < 2 ^ 62 then .ok ((List.range j.toNat).map fun (i : Nat) => [.int i]) ρ else .bad
  | .ok _ _ => .bad
  | .ex x ρ => .ex x ρ
  | .bad => .bad
def kEn : R D → R (List (List D))
  | .ok (.lst _ xs) ρ => if isCs xs = true then .ok ((xs.zip (List.range xs.length)).map fun p => [.int (p.2 : Nat), p.1]) ρ else .bad
  | .ok _ _ => .bad
  | .ex x ρ => .ex x ρ
  | .bad => .bad
theorem it_seq {e : E} {ρ : Ev} : It.go F (.seq e) ρ = kSq (kOwn e (e.go F ρ)) := by
  simp only [It.go]
  cases e.go F ρ with
  | ok d ρ =>
    show ((own e d.1 d.2 ρ).bnd _) = kSq (own e d.1 d.2 ρ)
    cases own e d.1 d.2 ρ with
    | ok d ρ =>
      show (match d.iter with | some xs => _ | none => _) = kW ρ d.iter
      cases d.iter <;> rfl
    | _ => rfl
  | _ => rfl
theorem it_scr {e : E} {ρ : Ev} : It.go F (.scr e) ρ = kScr (e.go F ρ) := by
  simp only [It.go]
  cases e.go F ρ with
  | ok d ρ => obtain ⟨d, lo⟩ := d; cases d <;> rfl
  | _ => rfl
theorem it_rng {e : E} {ρ : Ev} : It.go F (.rng e) ρ = kRg (e.go F ρ) := by
  simp only [It.go]
  cases e.go F ρ with
  | ok d ρ => obtain ⟨d, lo⟩ := d; cases d <;> rfl
  | _ => rfl
theorem it_enum {e : E} {ρ : Ev} : It.go F (.enum e) ρ = kEn (kOwn e (e.go F ρ)) := by
  simp only [It.go]
  cases e.go F ρ with
  | ok d ρ =>
    show ((own e d.1 d.2 ρ).bnd _) = kEn (own e d.1 d.2 ρ)
    cases own e d.1 d.2 ρ with
    | ok d ρ => cases d <;> rfl
    | _ => rfl
  | _ => rfl
/-! ### comprehensions -/
def kG2 (F : Orc) (tg : List Nat) (el : E) (cs : To) (xs : List (List D)) (acc : List D) : R D → R (List D)
  | .ok d ρ => if acc.length < sizeLine then lcG F tg el cs xs (wipeE ρ tg) (acc ++ [d]) else .bad
  | .ex x ρ => .ex x ρ
  | .bad => .bad
def kG1 (F : Orc) (tg : List Nat) (el : E) (cs : To) (xs : List (List D)) (acc : List D) : R Bool → R (List D)
  | .ok true ρ => kG2 F tg el cs xs acc (kOwn el (el.go F ρ))
  | .ok false ρ => lcG F tg el cs xs (wipeE ρ tg) acc
  | .ex x ρ => .ex x ρ
  | .bad => .bad
theorem lcG_nil {tg : List Nat} {el : E} {cs : To} {ρ : Ev} {acc : List D} : lcG F tg el cs [] ρ acc = .ok acc ρ := rfl
theorem lcG_cons {tg : List Nat} {el : E} {cs : To} {x : List D} {xs : List (List D)} {ρ : Ev} {acc : List D} (h : x.length = tg.length) (h2 : tgIn ρ tg = true) : lcG F tg el cs (x :: xs) ρ acc = kG1 F tg el cs xs acc (cs.tst F (putE ρ tg x)) := by
  show (if x.length = tg.length ∧ tgIn ρ tg = true then _ else _) = _
  rw [if_pos ⟨h, h2⟩]
  dsimp only
  cases cs.tst F (putE ρ tg x) with
  | ok b ρ =>
    cases b
    · rfl
    · show ((el.go F ρ).bnd _).bnd _ = kG2 F tg el cs xs acc (kOwn el (el.go F ρ))
      cases el.go F ρ with
      | ok d ρ =>
        show (own el d.1 d.2 ρ).bnd _ = kG2 F tg el cs xs acc (own el d.1 d.2 ρ)
        cases own el d.1 d.2 ρ <;> rfl
      | _ => rfl
  | _ => rfl
/-! ### statements -/
def kSet (i : Nat) : R D → RS
  | .ok d ρ => if i < ρ.length then .nx (ρ.set i (some d)) else .bad
  | .ex x ρ => .ex x ρ
  | .bad => .bad
def kExp : R (D × Bool) → RS
  | .ok _ ρ => .nx ρ
  | .ex x ρ => .ex x ρ
  | .bad => .bad
def kRet : R D → RS
  | .ok d ρ => .ret d ρ
  | .ex x ρ => .ex x ρ
  | .bad => .bad
def kIff (F : Orc) (ro : List Nat) (a b : Ss) : R Bool → RS
  | .ok true ρ => a.go F ro ρ
  | .ok false ρ => b.go F ro ρ
  | .ex x ρ => .ex x ρ
  | .bad => .bad
def kAp2 (i : Nat) (d : D) (ρ : Ev) : Option (Option D) → RS
  | some (some (.lst true xs)) => if xs.length < sizeLine then .nx (ρ.set i (some (.lst true (xs ++ [d])))) else .bad
  | _ => .bad
def kAp1 (i : Nat) : R D → RS
  | .ok d ρ => kAp2 i d ρ ρ[i]?
  | .ex x ρ => .ex x ρ
  | .bad => .bad
def kAp (F : Orc) (i : Nat) (e : E) (ρ : Ev) : Option (Option D) → RS
  | some (some (.lst _ _)) => kAp1 i (kOwn e (e.go F ρ))
  | _ => .bad
def kPl (i : Nat) (d : D) (ρ : Ev) (xs : List D) : Option Nat → RS
  | some n => .nx (ρ.set i (some (.lst true (xs.set n d))))
  | none => .bad
def kPd (i : Nat) (d : D) (ρ : Ev) (ks : List Key) (vs : List D) (q : Key) : Option Nat → RS
  | some n => if (ks.drop (n + 1)).all (fun k => !decide (k = q)) = true then .nx (ρ.set i (some (.dK true ks (vs.set n d)))) else .bad
  | none => .nx (ρ.set i (some (.dK true (ks ++ [q]) (vs ++ [d]))))
def kPk (i : Nat) (d : D) (ρ : Ev) (ks : List Key) (vs : List D) : Option Key → RS
  | some q => if ks.length < sizeLine ∧ ks.length = vs.length then kPd i d ρ ks vs q (ks.findIdx? fun k => decide (k = q)) else .bad
  | none => .bad
def kP3 (i : Nat) (d k : D) (ρ : Ev) : Option (Option D) → RS
  | some (some (.lst true xs)) => (match k with
    | .int j => kPl i d ρ xs (ixN xs.length j)
    | _ => .bad)
  | some (some (.dK true ks vs)) => kPk i d ρ ks vs k.key
  | _ => .bad
def kP2 (i : Nat) (d : D) : R (D × Bool) → RS
  | .ok k ρ => kP3 i d k.1 ρ ρ[i]?
  | .ex x ρ => .ex x ρ
  | .bad => .bad
def kP1 (F : Orc) (i : Nat) (k : E) : R D → RS
  | .ok d ρ => if (k.pu && ((ρ[i]?).join).isSome) = true then kP2 i d (k.go F ρ) else .bad
  | .ex x ρ => .ex x ρ
  | .bad => .bad
def forG (F : Orc) (ro : List Nat) (tg : List Nat) (b : Ss) (xs : List (List D)) (ρ : Ev) : RS := forGo tg (fun ρ => b.go F ro ρ) xs ρ
def kFor (F : Orc) (ro : List Nat) (tg : List Nat) (b : Ss) : R (List (List D)) → RS
  | .ok xs ρ => forG F ro tg b xs ρ
  | .ex x ρ => .ex x ρ
  | .bad => .bad
def kFo (F : Orc) (ro : List Nat) (tg : List Nat) (b : Ss) (xs : List (List D)) : RS → RS
  | .nx ρ => forG F ro tg b xs ρ
  | .cnt ρ => forG F ro tg b xs ρ
  | .brk ρ => .nx ρ
  | .ret d ρ => .ret d ρ
  | .ex x ρ => .ex x ρ
  | .bad => .bad
def kSeq (F : Orc) (ro : List Nat) (r : Ss) : RS → RS
  | .nx ρ => r.go F ro ρ
  | .brk ρ => .brk ρ
  | .cnt ρ => .cnt ρ
  | .ret d ρ => .ret d ρ
  | .ex x ρ => .ex x ρ
  | .bad => .bad
theorem r_own {e : E} {ρ : Ev} {k : D → Ev → RS} : ((e.go F ρ).st fun d ρ => (own e d.1 d.2 ρ).st k) = (kOwn e (e.go F ρ)).st k := by cases e.go F ρ <;> rfl
theorem s_set {i : Nat} {e : E} {ρ : Ev} : S.go F ro (.set i e) ρ = if ro.contains i = true then .bad else kSet i (kOwn e (e.go F ρ)) := by
  simp only [S.go]
  split
  · rfl
  · rw [r_own]
    cases kOwn e (e.go F ρ) <;> rfl
theorem s_expr {e : E} {ρ : Ev} : S.go F ro (.expr e) ρ = kExp (e.go F ρ) := by simp only [S.go]; cases e.go F ρ <;> rfl
theorem s_ret {e : E} {ρ : Ev} : S.go F ro (.ret e) ρ = kRet (kOwn e (e.go F ρ)) := by
  simp only [S.go]
  rw [r_own]
  cases kOwn e (e.go F ρ) <;> rfl
theorem s_iff {c : T} {a b : Ss} {ρ : Ev} : S.go F ro (.iff c a b) ρ = kIff F ro a b (c.tst F ρ) := by
  simp only [S.go]
  cases c.tst F ρ with
  | ok b ρ => cases b <;> rfl
  | _ => rfl
theorem s_app {i : Nat} {e : E} {ρ : Ev} : S.go F ro (.app i e) ρ = kAp F i e ρ ρ[i]? := by
  simp only [S.go]
  generalize ρ[i]? = x
  have key : ((e.go F ρ).st fun d ρ => (own e d.1 d.2 ρ).st fun d ρ => match ρ[i]? with
      | some (some (.lst true xs)) => if xs.length < sizeLine then RS.nx (ρ.set i (some (.lst true (xs ++ [d])))) else .bad
      | _ => .bad) = kAp1 i (kOwn e (e.go F ρ)) := by
    rw [r_own]
    cases kOwn e (e.go F ρ) with
    | ok d ρ =>
      show (match ρ[i]? with | some (some (.lst true xs)) => _ | _ => _) = kAp2 i d ρ ρ[i]?
      rfl
    | _ => rfl
  cases x with
  | none => rfl
  | some x =>
    cases x with
    | none => rfl
    | some d => cases d <;> first | rfl | exact key
theorem s_put {i : Nat} {k e : E} {ρ : Ev} : S.go F ro (.put i k e) ρ = kP1 F i k (kOwn e (e.go F ρ)) := by
  simp only [S.go]
  rw [r_own]
  cases kOwn e (e.go F ρ) with
  | ok d ρ =>
    show (if (k.pu && ((ρ[i]?).join).isSome) = true then _ else _) = if (k.pu && ((ρ[i]?).join).isSome) = true then _ else _
    split
    · cases k.go F ρ with
      | ok z ρ =>
        show _ = kP3 i d z.1 ρ ρ[i]?
        unfold kP3 kPl kPk kPd
        rfl
      | _ => rfl
    · rfl
  | _ => rfl
theorem s_for {tg : List Nat} {it : It} {b : Ss} {ρ : Ev} : S.go F ro (.for_ tg it b) ρ = if tg.any ro.contains = true then .bad else kFor F ro tg b (it.go F ρ) := by
  simp only [S.go]
  split
  · rfl
  · cases it.go F ρ <;> rfl
theorem s_pass {ρ : Ev} : S.go F ro .pass ρ = .nx ρ := rfl
theorem s_brk {ρ : Ev} : S.go F ro .brk ρ = .brk ρ := rfl
theorem s_cnt {ρ : Ev} : S.go F ro .cnt ρ = .cnt ρ := rfl
theorem ss_nil {ρ : Ev} : Ss.go F ro .nil ρ = .nx ρ := rfl
theorem ss_cons {s : S} {r : Ss} {ρ : Ev} : Ss.go F ro (.cons s r) ρ = kSeq F ro r (s.go F ro ρ) := by simp only [Ss.go]; cases s.go F ro ρ <;> rfl
theorem forG_nil {tg : List Nat} {b : Ss} {ρ : Ev} : forG F ro tg b [] ρ = .nx ρ := rfl
theorem forG_cons {tg : List Nat} {b : Ss} {x : List D} {xs : List (List D)} {ρ : Ev} (h : x.length = tg.length) (h2 : tgIn ρ tg = true) : forG F ro tg b (x :: xs) ρ = kFo F ro tg b xs (b.go F ro (putE ρ tg x)) := by
  show (if x.length = tg.length ∧ tgIn ρ tg = true then _ else _) = _
  rw [if_pos ⟨h, h2⟩]
  dsimp only
  cases b.go F ro (putE ρ tg x) <;> rfl
/-! ### defs -/
def RS.toCR (f : Df) : RS → CR
  | .nx ρ => .ok .non (finOf f ρ)
  | .ret d ρ => .ok d (finOf f ρ)
  | .ex x _ => .ex x
  | _ => .bad
theorem Df.run_eq (f : Df) (F : Orc) (ds : List D) (h : ds.length = f.np) : f.run F ds = (f.body.go F f.ro (f.start ds)).toCR f := by
  unfold Df.run RS.toCR
  rw [if_pos h]
  try (cases f.body.go F f.ro (f.start ds) <;> rfl)
/-- a call whose end is known -/
theorem callR_ok {f : Nat} {as : List Arg} {ρ : Ev} {ds : List D} {d : D} {fin : List (Option D)} (h1 : argsD ρ as = some ds) (h2 : (as.flatMap Arg.slot).Nodup) (h3 : F f ds = .ok d fin) (h4 : fin.length = as.length) :
    callR F f as ρ = .ok (d, false) (backF (offs ρ as) ρ (d.noSh && (finNoSh as fin && lendable ρ as)) as fin) := by
  unfold callR
  rw [h1]
  dsimp only
  rw [if_pos h2, h3]
  dsimp only
  rw [if_pos h4]
/-! ### one by one -/
theorem kU_1 {o : U1} : kU o (.ok d ρ) = kOp (o.go d.1) false ρ := rfl
theorem kU_2 {o : U1} : kU o (.ex xn ρ) = .ex xn ρ := rfl
theorem kU_3 {o : U1} : kU o (.bad) = .bad := rfl
theorem kB2_1 {o : B2} {a : D} : kB2 o a (.ok b ρ) = kOp (o.go a b.1) false ρ := rfl
theorem kB2_2 {o : B2} {a : D} : kB2 o a (.ex xn ρ) = .ex xn ρ := rfl
theorem kB2_3 {o : B2} {a : D} : kB2 o a (.bad) = .bad := rfl
theorem kB1_1 {F : Orc} {o : B2} {y : E} : kB1 F o y (.ok a ρ) = if held a.1 a.2 y = true then kB2 o a.1 (y.go F ρ) else .bad := rfl
theorem kB1_2 {F : Orc} {o : B2} {y : E} : kB1 F o y (.ex xn ρ) = .ex xn ρ := rfl
theorem kB1_3 {F : Orc} {o : B2} {y : E} : kB1 F o y (.bad) = .bad := rfl
theorem kI2_1 {a : D × Bool} : kI2 a (.ok b ρ) = kOp (ixD a.1 b.1) a.2 ρ := rfl
theorem kI2_2 {a : D × Bool} : kI2 a (.ex xn ρ) = .ex xn ρ := rfl
theorem kI2_3 {a : D × Bool} : kI2 a (.bad) = .bad := rfl
theorem kI1_1 {F : Orc} {y : E} : kI1 F y (.ok a ρ) = if held a.1 a.2 y = true then kI2 a (y.go F ρ) else .bad := rfl
theorem kI1_2 {F : Orc} {y : E} : kI1 F y (.ex xn ρ) = .ex xn ρ := rfl
theorem kI1_3 {F : Orc} {y : E} : kI1 F y (.bad) = .bad := rfl
theorem kS3_1 {a : D} {l : Option Int} : kS3 a l (.ok h ρ) = kOp (slD a l h) false ρ := rfl
theorem kS3_2 {a : D} {l : Option Int} : kS3 a l (.ex xn ρ) = .ex xn ρ := rfl
theorem kS3_3 {a : D} {l : Option Int} : kS3 a l (.bad) = .bad := rfl
theorem kS2_1 {F : Orc} {a : D} {hi : Eo} : kS2 F a hi (.ok l ρ) = kS3 a l (hi.go F ρ) := rfl
theorem kS2_2 {F : Orc} {a : D} {hi : Eo} : kS2 F a hi (.ex xn ρ) = .ex xn ρ := rfl
theorem kS2_3 {F : Orc} {a : D} {hi : Eo} : kS2 F a hi (.bad) = .bad := rfl
theorem kS1_1 {F : Orc} {lo hi : Eo} : kS1 F lo hi (.ok a ρ) = if (!a.2 || a.1.isC || (lo.pu && hi.pu)) = true then kS2 F a.1 hi (lo.go F ρ) else .bad := rfl
theorem kS1_2 {F : Orc} {lo hi : Eo} : kS1 F lo hi (.ex xn ρ) = .ex xn ρ := rfl
theorem kS1_3 {F : Orc} {lo hi : Eo} : kS1 F lo hi (.bad) = .bad := rfl
theorem kC3_1 {p : B2} {b : D} : kC3 p b (.ok c ρ) = kOp (p.go b c.1) false ρ := rfl
theorem kC3_2 {p : B2} {b : D} : kC3 p b (.ex xn ρ) = .ex xn ρ := rfl
theorem kC3_3 {p : B2} {b : D} : kC3 p b (.bad) = .bad := rfl
theorem kC2'_1 {F : Orc} {p : B2} {z : E} {b : D} {ρ : Ev} : kC2' F p z b ρ (some (.bl true)) = kC3 p b (z.go F ρ) := rfl
theorem kC2'_2 {F : Orc} {p : B2} {z : E} {b : D} {ρ : Ev} : kC2' F p z b ρ (some (.bl false)) = .ok (.bl false, false) ρ := rfl
theorem kC2_1 {F : Orc} {o p : B2} {z : E} {a : D} : kC2 F o p z a (.ok b ρ) = kC2' F p z b.1 ρ (o.go a b.1) := rfl
theorem kC2_2 {F : Orc} {o p : B2} {z : E} {a : D} : kC2 F o p z a (.ex xn ρ) = .ex xn ρ := rfl
theorem kC2_3 {F : Orc} {o p : B2} {z : E} {a : D} : kC2 F o p z a (.bad) = .bad := rfl
theorem kC1_1 {F : Orc} {o p : B2} {y z : E} : kC1 F o p y z (.ok a ρ) = kC2 F o p z a.1 (y.go F ρ) := rfl
theorem kC1_2 {F : Orc} {o p : B2} {y z : E} : kC1 F o p y z (.ex xn ρ) = .ex xn ρ := rfl
theorem kC1_3 {F : Orc} {o p : B2} {y z : E} : kC1 F o p y z (.bad) = .bad := rfl
theorem kTb_1  : kTb  (.ok b ρ) = .ok (.bl b, false) ρ := rfl
theorem kTb_2  : kTb  (.ex xn ρ) = .ex xn ρ := rfl
theorem kTb_3  : kTb  (.bad) = .bad := rfl
theorem kIf_1 {F : Orc} {x y : E} : kIf F x y (.ok true ρ) = x.go F ρ := rfl
theorem kIf_2 {F : Orc} {x y : E} : kIf F x y (.ok false ρ) = y.go F ρ := rfl
theorem kIf_3 {F : Orc} {x y : E} : kIf F x y (.ex xn ρ) = .ex xn ρ := rfl
theorem kIf_4 {F : Orc} {x y : E} : kIf F x y (.bad) = .bad := rfl
theorem kTup_1  : kTup  (.ok ds ρ) = kOp (mkTup ds) false ρ := rfl
theorem kTup_2  : kTup  (.ex xn ρ) = .ex xn ρ := rfl
theorem kTup_3  : kTup  (.bad) = .bad := rfl
theorem kLst_1  : kLst  (.ok ds ρ) = kOp (mkLst ds) false ρ := rfl
theorem kLst_2  : kLst  (.ex xn ρ) = .ex xn ρ := rfl
theorem kLst_3  : kLst  (.bad) = .bad := rfl
theorem kCall_1 {F : Orc} {f : Nat} : kCall F f (.ok as ρ) = callR F f as ρ := rfl
theorem kCall_2 {F : Orc} {f : Nat} : kCall F f (.ex xn ρ) = .ex xn ρ := rfl
theorem kCall_3 {F : Orc} {f : Nat} : kCall F f (.bad) = .bad := rfl
theorem kX2_1 {xs : List D} : kX2 xs (.ok b ρ) = if b.1.flat = true ∧ xs.all D.flat = true then (match xs.findIdx? fun z => eqF z b.1 with
      | some j => .ok (.int (j : Nat), false) ρ
      | none => .bad) else .bad := rfl
theorem kX2_2 {xs : List D} : kX2 xs (.ex xn ρ) = .ex xn ρ := rfl
theorem kX2_3 {xs : List D} : kX2 xs (.bad) = .bad := rfl
theorem kX1_1 {F : Orc} {y : E} : kX1 F y (.ok (.lst o xs, lo) ρ) = if held (.lst o xs) lo y = true then kX2 xs (y.go F ρ) else .bad := rfl
theorem kX1_2 {F : Orc} {y : E} : kX1 F y (.ex xn ρ) = .ex xn ρ := rfl
theorem kX1_3 {F : Orc} {y : E} : kX1 F y (.bad) = .bad := rfl
theorem kL2_1  : kL2  (.ok ds ρ) = .ok (.lst true ds, false) ρ := rfl
theorem kL1_1 {F : Orc} {tg : List Nat} {el : E} {cs : To} : kL1 F tg el cs (.ok xs ρ) = kL2 (lcG F tg el cs xs (wipeE ρ tg) []) := rfl
theorem kL1_2 {F : Orc} {tg : List Nat} {el : E} {cs : To} : kL1 F tg el cs (.ex xn ρ) = .ex xn ρ := rfl
theorem kL1_3 {F : Orc} {tg : List Nat} {el : E} {cs : To} : kL1 F tg el cs (.bad) = .bad := rfl
theorem kLr_1  : kLr  (.ok (.int j, z1) ρ) = if 0 ≤ j ∧ j ≤ 16777216 then .ok (.lst true ((List.range j.toNat).map fun (i : Nat) => .int i), false) ρ else .bad := rfl
theorem kLr_2  : kLr  (.ex xn ρ) = .ex xn ρ := rfl
theorem kLr_3  : kLr  (.bad) = .bad := rfl
theorem kOwn_1 {e : E} : kOwn e (.ok d ρ) = own e d.1 d.2 ρ := rfl
theorem kOwn_2 {e : E} : kOwn e (.ex xn ρ) = .ex xn ρ := rfl
theorem kOwn_3 {e : E} : kOwn e (.bad) = .bad := rfl
theorem kAn_1 {F : Orc} {y : T} : kAn F y (.ok true ρ) = y.tst F ρ := rfl
theorem kAn_2 {F : Orc} {y : T} : kAn F y (.ok false ρ) = .ok false ρ := rfl
theorem kAn_3 {F : Orc} {y : T} : kAn F y (.ex xn ρ) = .ex xn ρ := rfl
theorem kAn_4 {F : Orc} {y : T} : kAn F y (.bad) = .bad := rfl
theorem kOr_1 {F : Orc} {y : T} : kOr F y (.ok true ρ) = .ok true ρ := rfl
theorem kOr_2 {F : Orc} {y : T} : kOr F y (.ok false ρ) = y.tst F ρ := rfl
theorem kOr_3 {F : Orc} {y : T} : kOr F y (.ex xn ρ) = .ex xn ρ := rfl
theorem kOr_4 {F : Orc} {y : T} : kOr F y (.bad) = .bad := rfl
theorem kNt_1  : kNt  (.ok b ρ) = .ok (!b) ρ := rfl
theorem kNt_2  : kNt  (.ex xn ρ) = .ex xn ρ := rfl
theorem kNt_3  : kNt  (.bad) = .bad := rfl
theorem kTr'_1 {ρ : Ev} : kTr' ρ (some b) = .ok b ρ := rfl
theorem kTr'_2 {ρ : Ev} : kTr' ρ (none) = .bad := rfl
theorem kTr_1  : kTr  (.ok d ρ) = kTr' ρ (truD d.1) := rfl
theorem kTr_2  : kTr  (.ex xn ρ) = .ex xn ρ := rfl
theorem kTr_3  : kTr  (.bad) = .bad := rfl
theorem kAnV_1 {F : Orc} {y : T} : kAnV F y (.ok true ρ) = y.val F ρ := rfl
theorem kAnV_2 {F : Orc} {y : T} : kAnV F y (.ok false ρ) = .ok false ρ := rfl
theorem kAnV_3 {F : Orc} {y : T} : kAnV F y (.ex xn ρ) = .ex xn ρ := rfl
theorem kAnV_4 {F : Orc} {y : T} : kAnV F y (.bad) = .bad := rfl
theorem kOrV_1 {F : Orc} {y : T} : kOrV F y (.ok true ρ) = .ok true ρ := rfl
theorem kOrV_2 {F : Orc} {y : T} : kOrV F y (.ok false ρ) = y.val F ρ := rfl
theorem kOrV_3 {F : Orc} {y : T} : kOrV F y (.ex xn ρ) = .ex xn ρ := rfl
theorem kOrV_4 {F : Orc} {y : T} : kOrV F y (.bad) = .bad := rfl
theorem kVl_1  : kVl  (.ok (.bl b, z1) ρ) = .ok b ρ := rfl
theorem kVl_2  : kVl  (.ex xn ρ) = .ex xn ρ := rfl
theorem kVl_3  : kVl  (.bad) = .bad := rfl
theorem kEo_1  : kEo  (.ok (.int i, z1) ρ) = .ok (some i) ρ := rfl
theorem kEo_2  : kEo  (.ex xn ρ) = .ex xn ρ := rfl
theorem kEo_3  : kEo  (.bad) = .bad := rfl
theorem kEs2_1 {d : D} : kEs2 d (.ok ds ρ) = .ok (d :: ds) ρ := rfl
theorem kEs2_2 {d : D} : kEs2 d (.ex xn ρ) = .ex xn ρ := rfl
theorem kEs2_3 {d : D} : kEs2 d (.bad) = .bad := rfl
theorem kEs1_1 {F : Orc} {r : Es} : kEs1 F r (.ok d ρ) = kEs2 d (r.go F ρ) := rfl
theorem kEs1_2 {F : Orc} {r : Es} : kEs1 F r (.ex xn ρ) = .ex xn ρ := rfl
theorem kEs1_3 {F : Orc} {r : Es} : kEs1 F r (.bad) = .bad := rfl
theorem kAs2_1 {d : Arg} : kAs2 d (.ok ds ρ) = .ok (d :: ds) ρ := rfl
theorem kAs2_2 {d : Arg} : kAs2 d (.ex xn ρ) = .ex xn ρ := rfl
theorem kAs2_3 {d : Arg} : kAs2 d (.bad) = .bad := rfl
theorem kAs1_1 {F : Orc} {r : Es} : kAs1 F r (.ok d ρ) = kAs2 (.d d) (r.args F ρ) := rfl
theorem kAs1_2 {F : Orc} {r : Es} : kAs1 F r (.ex xn ρ) = .ex xn ρ := rfl
theorem kAs1_3 {F : Orc} {r : Es} : kAs1 F r (.bad) = .bad := rfl
theorem kW_1 {ρ : Ev} : kW ρ (some xs) = .ok (xs.map fun x => [x]) ρ := rfl
theorem kW_2 {ρ : Ev} : kW ρ (none) = .bad := rfl
theorem kSq_1  : kSq  (.ok d ρ) = kW ρ d.iter := rfl
theorem kSq_2  : kSq  (.ex xn ρ) = .ex xn ρ := rfl
theorem kSq_3  : kSq  (.bad) = .bad := rfl
theorem kScr_1  : kScr  (.ok (.scr ns, z1) ρ) = .ok (ns.map fun x => [.int x]) ρ := rfl
theorem kScr_2  : kScr  (.ex xn ρ) = .ex xn ρ := rfl
theorem kScr_3  : kScr  (.bad) = .bad := rfl
theorem kRg_1  : kRg  (.ok (.int j, z1) ρ) = if -(2 ^ 62) ≤ j ∧ j < 2 ^ 62 then .ok ((List.range j.toNat).map fun (i : Nat) => [.int i]) ρ else .bad := rfl
theorem kRg_2  : kRg  (.ex xn ρ) = .ex xn ρ := rfl
theorem kRg_3  : kRg  (.bad) = .bad := rfl
theorem kEn_1  : kEn  (.ok (.lst z1 xs) ρ) = if isCs xs = true then .ok ((xs.zip (List.range xs.length)).map fun p => [.int (p.2 : Nat), p.1]) ρ else .bad := rfl
theorem kEn_2  : kEn  (.ex xn ρ) = .ex xn ρ := rfl
theorem kEn_3  : kEn  (.bad) = .bad := rfl
theorem kSet_1 {i : Nat} : kSet i (.ok d ρ) = if i < ρ.length then .nx (ρ.set i (some d)) else .bad := rfl
theorem kSet_2 {i : Nat} : kSet i (.ex xn ρ) = .ex xn ρ := rfl
theorem kSet_3 {i : Nat} : kSet i (.bad) = .bad := rfl
theorem kExp_1  : kExp  (.ok z ρ) = .nx ρ := rfl
theorem kExp_2  : kExp  (.ex xn ρ) = .ex xn ρ := rfl
theorem kExp_3  : kExp  (.bad) = .bad := rfl
theorem kRet_1  : kRet  (.ok d ρ) = .ret d ρ := rfl
theorem kRet_2  : kRet  (.ex xn ρ) = .ex xn ρ := rfl
theorem kRet_3  : kRet  (.bad) = .bad := rfl
theorem kIff_1 {F : Orc} {ro : List Nat} {a b : Ss} : kIff F ro a b (.ok true ρ) = a.go F ro ρ := rfl
theorem kIff_2 {F : Orc} {ro : List Nat} {a b : Ss} : kIff F ro a b (.ok false ρ) = b.go F ro ρ := rfl
theorem kIff_3 {F : Orc} {ro : List Nat} {a b : Ss} : kIff F ro a b (.ex xn ρ) = .ex xn ρ := rfl
theorem kIff_4 {F : Orc} {ro : List Nat} {a b : Ss} : kIff F ro a b (.bad) = .bad := rfl
theorem kAp2_1 {i : Nat} {d : D} {ρ : Ev} : kAp2 i d ρ (some (some (.lst true xs))) = if xs.length < sizeLine then .nx (ρ.set i (some (.lst true (xs ++ [d])))) else .bad := rfl
theorem kAp1_1 {i : Nat} : kAp1 i (.ok d ρ) = kAp2 i d ρ ρ[i]? := rfl
theorem kAp1_2 {i : Nat} : kAp1 i (.ex xn ρ) = .ex xn ρ := rfl
theorem kAp1_3 {i : Nat} : kAp1 i (.bad) = .bad := rfl
theorem kAp_1 {F : Orc} {i : Nat} {e : E} {ρ : Ev} : kAp F i e ρ (some (some (.lst z1 z2))) = kAp1 i (kOwn e (e.go F ρ)) := rfl
theorem kPl_1 {i : Nat} {d : D} {ρ : Ev} {xs : List D} : kPl i d ρ xs (some n) = .nx (ρ.set i (some (.lst true (xs.set n d)))) := rfl
theorem kPl_2 {i : Nat} {d : D} {ρ : Ev} {xs : List D} : kPl i d ρ xs (none) = .bad := rfl
theorem kPd_1 {i : Nat} {d : D} {ρ : Ev} {ks : List Key} {vs : List D} {q : Key} : kPd i d ρ ks vs q (some n) = if (ks.drop (n + 1)).all (fun k => !decide (k = q)) = true then .nx (ρ.set i (some (.dK true ks (vs.set n d)))) else .bad := rfl
theorem kPd_2 {i : Nat} {d : D} {ρ : Ev} {ks : List Key} {vs : List D} {q : Key} : kPd i d ρ ks vs q (none) = .nx (ρ.set i (some (.dK true (ks ++ [q]) (vs ++ [d])))) := rfl
theorem kPk_1 {i : Nat} {d : D} {ρ : Ev} {ks : List Key} {vs : List D} : kPk i d ρ ks vs (some q) = if ks.length < sizeLine ∧ ks.length = vs.length then kPd i d ρ ks vs q (ks.findIdx? fun k => decide (k = q)) else .bad := rfl
theorem kPk_2 {i : Nat} {d : D} {ρ : Ev} {ks : List Key} {vs : List D} : kPk i d ρ ks vs (none) = .bad := rfl
theorem kP3_1 {i : Nat} {d k : D} {ρ : Ev} : kP3 i d k ρ (some (some (.lst true xs))) = (match k with
      | .int j => kPl i d ρ xs (ixN xs.length j)
      | _ => .bad) := rfl
theorem kP3_2 {i : Nat} {d k : D} {ρ : Ev} {ks : List Key} {vs : List D} : kP3 i d k ρ (some (some (.dK true ks vs))) = kPk i d ρ ks vs k.key := rfl
theorem kP2_1 {i : Nat} {d : D} : kP2 i d (.ok k ρ) = kP3 i d k.1 ρ ρ[i]? := rfl
theorem kP2_2 {i : Nat} {d : D} : kP2 i d (.ex xn ρ) = .ex xn ρ := rfl
theorem kP2_3 {i : Nat} {d : D} : kP2 i d (.bad) = .bad := rfl
theorem kP1_1 {F : Orc} {i : Nat} {k : E} : kP1 F i k (.ok d ρ) = if (k.pu && ((ρ[i]?).join).isSome) = true then kP2 i d (k.go F ρ) else .bad := rfl
theorem kP1_2 {F : Orc} {i : Nat} {k : E} : kP1 F i k (.ex xn ρ) = .ex xn ρ := rfl
theorem kP1_3 {F : Orc} {i : Nat} {k : E} : kP1 F i k (.bad) = .bad := rfl
theorem kFor_1 {F : Orc} {ro : List Nat} {tg : List Nat} {b : Ss} : kFor F ro tg b (.ok xs ρ) = forG F ro tg b xs ρ := rfl
theorem kFor_2 {F : Orc} {ro : List Nat} {tg : List Nat} {b : Ss} : kFor F ro tg b (.ex xn ρ) = .ex xn ρ := rfl
theorem kFor_3 {F : Orc} {ro : List Nat} {tg : List Nat} {b : Ss} : kFor F ro tg b (.bad) = .bad := rfl
theorem kSeq_1 {F : Orc} {ro : List Nat} {r : Ss} : kSeq F ro r (.nx ρ) = r.go F ro ρ := rfl
theorem kSeq_2 {F : Orc} {ro : List Nat} {r : Ss} : kSeq F ro r (.brk ρ) = .brk ρ := rfl
theorem kSeq_3 {F : Orc} {ro : List Nat} {r : Ss} : kSeq F ro r (.cnt ρ) = .cnt ρ := rfl
theorem kSeq_4 {F : Orc} {ro : List Nat} {r : Ss} : kSeq F ro r (.ret d ρ) = .ret d ρ := rfl
theorem kSeq_5 {F : Orc} {ro : List Nat} {r : Ss} : kSeq F ro r (.ex xn ρ) = .ex xn ρ := rfl
theorem kSeq_6 {F : Orc} {ro : List Nat} {r : Ss} : kSeq F ro r (.bad) = .bad := rfl
theorem kV_1 {d : D} {ρ : Ev} : kV (some (some d)) ρ = .ok (d, true) ρ := rfl
theorem kMv_1 {i : Nat} {d : D} {ρ : Ev} : kMv i (some (some d)) ρ = .ok (d, false) (ρ.set i none) := rfl
theorem kSv_1 {i : Nat} {d : D} {ρ : Ev} : kSv i (some (some d)) ρ = .ok (d.clr, false) (ρ.set i (some d.clr)) := rfl
theorem cr_1 {f : Df} {ρ : Ev} : RS.toCR f (.nx ρ) = .ok .non (finOf f ρ) := rfl
theorem cr_2 {f : Df} {d : D} {ρ : Ev} : RS.toCR f (.ret d ρ) = .ok d (finOf f ρ) := rfl
theorem add_i {i j : Int} : B2.go .add (.int i) (.int j) = some (.int (i + j)) := rfl
theorem sub_i {i j : Int} : B2.go .sub (.int i) (.int j) = some (.int (i - j)) := rfl
theorem mul_r {i j : Int} (h : -(2 ^ 64) < j ∧ j < 2 ^ 64) : B2.go .mul (.int i) (.int j) = some (.int (i * j)) := if_pos (.inr h)
theorem mul_l {i j : Int} (h : -(2 ^ 64) < i ∧ i < 2 ^ 64) : B2.go .mul (.int i) (.int j) = some (.int (i * j)) := if_pos (.inl h)
theorem mod_i {i j : Int} : B2.go .mod (.int i) (.int j) = if j = 0 then none else some (.int (i.fmod j)) := by
  show (if decide (j ≠ 0) = true then some (D.int (i.fmod j)) else none) = _
  by_cases h : j = 0 <;> simp [h]
theorem fdiv_i {i j : Int} : B2.go .fdiv (.int i) (.int j) = if j = 0 then none else if -1073741824 < j ∧ j < 1073741824 then some (.int (i.fdiv j)) else none := by
  show (if decide (j ≠ 0 ∧ j.natAbs < 1073741824) = true then some (D.int (i.fdiv j)) else none) = _
  by_cases h : j = 0
  · simp [h]
  · by_cases h2 : j.natAbs < 1073741824
    · rw [if_pos (decide_eq_true ⟨h, h2⟩), if_neg h, if_pos (by omega)]
    · rw [if_neg (by simp [h2]), if_neg h, if_neg (by omega)]
theorem lt_i {i j : Int} : B2.go .lt (.int i) (.int j) = some (.bl (decide (i < j))) := rfl
theorem le_i {i j : Int} : B2.go .le (.int i) (.int j) = some (.bl (decide (i ≤ j))) := rfl
theorem gt_i {i j : Int} : B2.go .gt (.int i) (.int j) = some (.bl (decide (j < i))) := rfl
theorem ge_i {i j : Int} : B2.go .ge (.int i) (.int j) = some (.bl (decide (j ≤ i))) := rfl
theorem eq_i {i j : Int} : B2.go .eq (.int i) (.int j) = some (.bl (decide (i = j))) := rfl
theorem eq_b {i j : Bool} : B2.go .eq (.bl i) (.bl j) = some (.bl (decide (i = j))) := rfl
theorem eq_s {i j : Str} : B2.go .eq (.str i) (.str j) = some (.bl (decide (i = j))) := rfl
theorem ne_i {i j : Int} : B2.go .ne (.int i) (.int j) = some (.bl (!decide (i = j))) := rfl
theorem ne_b {i j : Bool} : B2.go .ne (.bl i) (.bl j) = some (.bl (!decide (i = j))) := rfl
theorem min_i {i j : Int} : B2.go .min2 (.int i) (.int j) = some (.int (if j < i then j else i)) := rfl
theorem max_i {i j : Int} : B2.go .max2 (.int i) (.int j) = some (.int (if j > i then j else i)) := rfl
theorem isN_ {a : D} : B2.go .isN a .non = some (.bl (a.isNon != false)) := by cases a <;> rfl
theorem notN_ {a : D} : B2.go .notN a .non = some (.bl (a.isNon != true)) := by cases a <;> rfl
theorem neg_i {i : Int} : U1.go .neg (.int i) = some (.int (-i)) := rfl
theorem abs_i {i : Int} : U1.go .abs (.int i) = some (.int (if i < 0 then -i else i)) := rfl
theorem int_i {i : Int} : U1.go .int (.int i) = some (.int i) := rfl
theorem int_b {k : Bool} : U1.go .int (.bl k) = some (.int (if k = true then 1 else 0)) := rfl
theorem len_l {o : Bool} {xs : List D} : U1.go .len (.lst o xs) = some (.int xs.length) := rfl
theorem len_t {o : Bool} {xs : List D} : U1.go .len (.tup o xs) = some (.int xs.length) := rfl
theorem ix_l {o : Bool} {xs : List D} {i : Int} : ixD (.lst o xs) (.int i) = atI xs i := rfl
theorem ix_t {o : Bool} {xs : List D} {i : Int} : ixD (.tup o xs) (.int i) = atI xs i := rfl
theorem tru_b {k : Bool} : truD (.bl k) = some k := rfl
theorem tru_i {i : Int} : truD (.int i) = some (i != 0) := rfl
def ownV (d : D) (ρ : Ev) : E → R D
  | .v i => .ok d.clr (ρ.set i (some d.clr))
  | _ => .bad
theorem own_i {e : E} {d : D} {lo : Bool} {ρ : Ev} : own e d lo ρ = if d.isC = true ∨ lo = false then .ok d ρ else ownV d ρ e := by
  unfold own ownV
  split <;> rfl
theorem ownV_v {i : Nat} {d : D} {ρ : Ev} : ownV d ρ (.v i) = .ok d.clr (ρ.set i (some d.clr)) := rfl
theorem lst_ {ds : List D} : mkLst ds = if ds.length ≤ sizeLine then some (.lst true ds) else none := rfl
theorem tup_ {ds : List D} : mkTup ds = if ds.length ≤ sizeLine then some (.tup (!isCs ds) ds) else none := rfl
theorem sz_ : sizeLine = 16777216 := rfl
theorem join_s {d : D} : (some (some d) : Option (Option D)).join = some d := rfl
theorem join_n : (some none : Option (Option D)).join = none := rfl
theorem at_0 {α : Type} {a0 : α} {l : List α} : L2.atI (a0 :: l) 0 = some a0 := atI_nat (j := 0) rfl
theorem at_1 {α : Type} {a0 a1 : α} {l : List α} : L2.atI (a0 :: a1 :: l) 1 = some a1 := atI_nat (j := 1) rfl
theorem at_2 {α : Type} {a0 a1 a2 : α} {l : List α} : L2.atI (a0 :: a1 :: a2 :: l) 2 = some a2 := atI_nat (j := 2) rfl
theorem at_3 {α : Type} {a0 a1 a2 a3 : α} {l : List α} : L2.atI (a0 :: a1 :: a2 :: a3 :: l) 3 = some a3 := atI_nat (j := 3) rfl
theorem at_4 {α : Type} {a0 a1 a2 a3 a4 : α} {l : List α} : L2.atI (a0 :: a1 :: a2 :: a3 :: a4 :: l) 4 = some a4 := atI_nat (j := 4) rfl
theorem at_5 {α : Type} {a0 a1 a2 a3 a4 a5 : α} {l : List α} : L2.atI (a0 :: a1 :: a2 :: a3 :: a4 :: a5 :: l) 5 = some a5 := atI_nat (j := 5) rfl
theorem at_6 {α : Type} {a0 a1 a2 a3 a4 a5 a6 : α} {l : List α} : L2.atI (a0 :: a1 :: a2 :: a3 :: a4 :: a5 :: a6 :: l) 6 = some a6 := atI_nat (j := 6) rfl
theorem at_7 {α : Type} {a0 a1 a2 a3 a4 a5 a6 a7 : α} {l : List α} : L2.atI (a0 :: a1 :: a2 :: a3 :: a4 :: a5 :: a6 :: a7 :: l) 7 = some a7 := atI_nat (j := 7) rfl
theorem at_8 {α : Type} {a0 a1 a2 a3 a4 a5 a6 a7 a8 : α} {l : List α} : L2.atI (a0 :: a1 :: a2 :: a3 :: a4 :: a5 :: a6 :: a7 :: a8 :: l) 8 = some a8 := atI_nat (j := 8) rfl
theorem at_9 {α : Type} {a0 a1 a2 a3 a4 a5 a6 a7 a8 a9 : α} {l : List α} : L2.atI (a0 :: a1 :: a2 :: a3 :: a4 :: a5 :: a6 :: a7 :: a8 :: a9 :: l) 9 = some a9 := atI_nat (j := 9) rfl
theorem at_10 {α : Type} {a0 a1 a2 a3 a4 a5 a6 a7 a8 a9 a10 : α} {l : List α} : L2.atI (a0 :: a1 :: a2 :: a3 :: a4 :: a5 :: a6 :: a7 :: a8 :: a9 :: a10 :: l) 10 = some a10 := atI_nat (j := 10) rfl
theorem at_11 {α : Type} {a0 a1 a2 a3 a4 a5 a6 a7 a8 a9 a10 a11 : α} {l : List α} : L2.atI (a0 :: a1 :: a2 :: a3 :: a4 :: a5 :: a6 :: a7 :: a8 :: a9 :: a10 :: a11 :: l) 11 = some a11 := atI_nat (j := 11) rfl
theorem at_12 {α : Type} {a0 a1 a2 a3 a4 a5 a6 a7 a8 a9 a10 a11 a12 : α} {l : List α} : L2.atI (a0 :: a1 :: a2 :: a3 :: a4 :: a5 :: a6 :: a7 :: a8 :: a9 :: a10 :: a11 :: a12 :: l) 12 = some a12 := atI_nat (j := 12) rfl
theorem at_13 {α : Type} {a0 a1 a2 a3 a4 a5 a6 a7 a8 a9 a10 a11 a12 a13 : α} {l : List α} : L2.atI (a0 :: a1 :: a2 :: a3 :: a4 :: a5 :: a6 :: a7 :: a8 :: a9 :: a10 :: a11 :: a12 :: a13 :: l) 13 = some a13 := atI_nat (j := 13) rfl
theorem at_14 {α : Type} {a0 a1 a2 a3 a4 a5 a6 a7 a8 a9 a10 a11 a12 a13 a14 : α} {l : List α} : L2.atI (a0 :: a1 :: a2 :: a3 :: a4 :: a5 :: a6 :: a7 :: a8 :: a9 :: a10 :: a11 :: a12 :: a13 :: a14 :: l) 14 = some a14 := atI_nat (j := 14) rfl
theorem at_15 {α : Type} {a0 a1 a2 a3 a4 a5 a6 a7 a8 a9 a10 a11 a12 a13 a14 a15 : α} {l : List α} : L2.atI (a0 :: a1 :: a2 :: a3 :: a4 :: a5 :: a6 :: a7 :: a8 :: a9 :: a10 :: a11 :: a12 :: a13 :: a14 :: a15 :: l) 15 = some a15 := atI_nat (j := 15) rfl
theorem at_16 {α : Type} {a0 a1 a2 a3 a4 a5 a6 a7 a8 a9 a10 a11 a12 a13 a14 a15 a16 : α} {l : List α} : L2.atI (a0 :: a1 :: a2 :: a3 :: a4 :: a5 :: a6 :: a7 :: a8 :: a9 :: a10 :: a11 :: a12 :: a13 :: a14 :: a15 :: a16 :: l) 16 = some a16 := atI_nat (j := 16) rfl
theorem at_17 {α : Type} {a0 a1 a2 a3 a4 a5 a6 a7 a8 a9 a10 a11 a12 a13 a14 a15 a16 a17 : α} {l : List α} : L2.atI (a0 :: a1 :: a2 :: a3 :: a4 :: a5 :: a6 :: a7 :: a8 :: a9 :: a10 :: a11 :: a12 :: a13 :: a14 :: a15 :: a16 :: a17 :: l) 17 = some a17 := atI_nat (j := 17) rfl
theorem at_18 {α : Type} {a0 a1 a2 a3 a4 a5 a6 a7 a8 a9 a10 a11 a12 a13 a14 a15 a16 a17 a18 : α} {l : List α} : L2.atI (a0 :: a1 :: a2 :: a3 :: a4 :: a5 :: a6 :: a7 :: a8 :: a9 :: a10 :: a11 :: a12 :: a13 :: a14 :: a15 :: a16 :: a17 :: a18 :: l) 18 = some a18 := atI_nat (j := 18) rfl
theorem at_19 {α : Type} {a0 a1 a2 a3 a4 a5 a6 a7 a8 a9 a10 a11 a12 a13 a14 a15 a16 a17 a18 a19 : α} {l : List α} : L2.atI (a0 :: a1 :: a2 :: a3 :: a4 :: a5 :: a6 :: a7 :: a8 :: a9 :: a10 :: a11 :: a12 :: a13 :: a14 :: a15 :: a16 :: a17 :: a18 :: a19 :: l) 19 = some a19 := atI_nat (j := 19) rfl
theorem at_20 {α : Type} {a0 a1 a2 a3 a4 a5 a6 a7 a8 a9 a10 a11 a12 a13 a14 a15 a16 a17 a18 a19 a20 : α} {l : List α} : L2.atI (a0 :: a1 :: a2 :: a3 :: a4 :: a5 :: a6 :: a7 :: a8 :: a9 :: a10 :: a11 :: a12 :: a13 :: a14 :: a15 :: a16 :: a17 :: a18 :: a19 :: a20 :: l) 20 = some a20 := atI_nat (j := 20) rfl
theorem at_21 {α : Type} {a0 a1 a2 a3 a4 a5 a6 a7 a8 a9 a10 a11 a12 a13 a14 a15 a16 a17 a18 a19 a20 a21 : α} {l : List α} : L2.atI (a0 :: a1 :: a2 :: a3 :: a4 :: a5 :: a6 :: a7 :: a8 :: a9 :: a10 :: a11 :: a12 :: a13 :: a14 :: a15 :: a16 :: a17 :: a18 :: a19 :: a20 :: a21 :: l) 21 = some a21 := atI_nat (j := 21) rfl
theorem at_22 {α : Type} {a0 a1 a2 a3 a4 a5 a6 a7 a8 a9 a10 a11 a12 a13 a14 a15 a16 a17 a18 a19 a20 a21 a22 : α} {l : List α} : L2.atI (a0 :: a1 :: a2 :: a3 :: a4 :: a5 :: a6 :: a7 :: a8 :: a9 :: a10 :: a11 :: a12 :: a13 :: a14 :: a15 :: a16 :: a17 :: a18 :: a19 :: a20 :: a21 :: a22 :: l) 22 = some a22 := atI_nat (j := 22) rfl
theorem at_23 {α : Type} {a0 a1 a2 a3 a4 a5 a6 a7 a8 a9 a10 a11 a12 a13 a14 a15 a16 a17 a18 a19 a20 a21 a22 a23 : α} {l : List α} : L2.atI (a0 :: a1 :: a2 :: a3 :: a4 :: a5 :: a6 :: a7 :: a8 :: a9 :: a10 :: a11 :: a12 :: a13 :: a14 :: a15 :: a16 :: a17 :: a18 :: a19 :: a20 :: a21 :: a22 :: a23 :: l) 23 = some a23 := atI_nat (j := 23) rfl
theorem at_24 {α : Type} {a0 a1 a2 a3 a4 a5 a6 a7 a8 a9 a10 a11 a12 a13 a14 a15 a16 a17 a18 a19 a20 a21 a22 a23 a24 : α} {l : List α} : L2.atI (a0 :: a1 :: a2 :: a3 :: a4 :: a5 :: a6 :: a7 :: a8 :: a9 :: a10 :: a11 :: a12 :: a13 :: a14 :: a15 :: a16 :: a17 :: a18 :: a19 :: a20 :: a21 :: a22 :: a23 :: a24 :: l) 24 = some a24 := atI_nat (j := 24) rfl
theorem at_25 {α : Type} {a0 a1 a2 a3 a4 a5 a6 a7 a8 a9 a10 a11 a12 a13 a14 a15 a16 a17 a18 a19 a20 a21 a22 a23 a24 a25 : α} {l : List α} : L2.atI (a0 :: a1 :: a2 :: a3 :: a4 :: a5 :: a6 :: a7 :: a8 :: a9 :: a10 :: a11 :: a12 :: a13 :: a14 :: a15 :: a16 :: a17 :: a18 :: a19 :: a20 :: a21 :: a22 :: a23 :: a24 :: a25 :: l) 25 = some a25 := atI_nat (j := 25) rfl
theorem ix5_0 : ixN 5 0 = some 0 := rfl
theorem ix5_1 : ixN 5 1 = some 1 := rfl
theorem ix5_2 : ixN 5 2 = some 2 := rfl
theorem ix5_3 : ixN 5 3 = some 3 := rfl
theorem ix5_4 : ixN 5 4 = some 4 := rfl
theorem pow_18 : B2.go .pow (.int 10) (.int 18) = some (.int (10 ^ 18)) := rfl
theorem pow_39 : B2.go .pow (.int 10) (.int 39) = some (.int (10 ^ 39)) := rfl
theorem pow_40 : B2.go .pow (.int 10) (.int 40) = some (.int (10 ^ 40)) := rfl
end Hm
end
section
set_option Elab.async false
set_option linter.all false
set_option maxRecDepth 100000
/-! What stands through the turns of a loop, of a comprehension. -/
namespace Hm
open PySem PySem.Spec L2
variable {F : Orc} {ro : List Nat}
theorem for_inv {tg : List Nat} {b : Ss} (P : Ev → Prop) : ∀ (xs : List (List D)) (ρ : Ev), P ρ →
    (∀ x ∈ xs, ∀ ρ, P ρ → x.length = tg.length ∧ tgIn ρ tg = true ∧ ∃ ρ', Ss.go F ro b (putE ρ tg x) = .nx ρ' ∧ P ρ') →
    ∃ ρ', forG F ro tg b xs ρ = .nx ρ' ∧ P ρ' := by
  intro xs
  induction xs with
  | nil => intro ρ h _; exact ⟨ρ, rfl, h⟩
  | cons x xs ih =>
    intro ρ h q
    obtain ⟨l1, l2, ρ', e, h'⟩ := q x List.mem_cons_self ρ h
    obtain ⟨ρ2, e2, h2⟩ := ih ρ' h' fun y hy => q y (List.mem_cons_of_mem _ hy)
    exact ⟨ρ2, by rw [forG_cons l1 l2, e]; exact e2, h2⟩
/-- with what is gone through so far -/
theorem for_seq {tg : List Nat} {b : Ss} (P : List (List D) → Ev → Prop) : ∀ (xs pre : List (List D)) (ρ : Ev), P pre ρ →
    (∀ pre x, ∀ ρ, P pre ρ → x ∈ xs → x.length = tg.length ∧ tgIn ρ tg = true ∧ ∃ ρ', Ss.go F ro b (putE ρ tg x) = .nx ρ' ∧ P (pre ++ [x]) ρ') →
    ∃ ρ', forG F ro tg b xs ρ = .nx ρ' ∧ P (pre ++ xs) ρ' := by
  intro xs
  induction xs with
  | nil => intro pre ρ h _; exact ⟨ρ, rfl, by rwa [List.append_nil]⟩
  | cons x xs ih =>
    intro pre ρ h q
    obtain ⟨l1, l2, ρ', e, h'⟩ := q pre x ρ h List.mem_cons_self
    obtain ⟨ρ2, e2, h2⟩ := ih _ ρ' h' fun p y r hp hy => q p y r hp (List.mem_cons_of_mem _ hy)
    exact ⟨ρ2, by rw [forG_cons l1 l2, e]; exact e2, by rwa [List.append_assoc] at h2⟩
/-- a comprehension whose items are of a kind -/
theorem lc_inv {α : Type} {tg : List Nat} {el : E} (f : α → D) (P : Ev → Prop) (Q : α → Prop) : ∀ (xs : List (List D)) (ρ : Ev) (acc : List D), P ρ → acc.length + xs.length < 16777216 →
    (∀ x ∈ xs, ∀ ρ, P ρ → x.length = tg.length ∧ tgIn ρ tg = true ∧ ∃ (z : α) (ρ' : Ev), kOwn el (E.go F el (putE ρ tg x)) = .ok (f z) ρ' ∧ P (wipeE ρ' tg) ∧ Q z) →
    ∃ (zs : List α) (ρ' : Ev), lcG F tg el .no xs ρ acc = .ok (acc ++ zs.map f) ρ' ∧ P ρ' ∧ zs.length = xs.length ∧ ∀ z ∈ zs, Q z := by
  intro xs
  induction xs with
  | nil => intro ρ acc h _ _; exact ⟨[], ρ, by rw [lcG_nil, List.map_nil, List.append_nil], h, rfl, fun _ h => nomatch h⟩
  | cons x xs ih =>
    intro ρ acc h hl q
    rw [List.length_cons] at hl
    obtain ⟨l1, l2, z, ρ', e, h', hz⟩ := q x List.mem_cons_self ρ h
    obtain ⟨zs, ρ2, e2, h2, hn, hq⟩ := ih (wipeE ρ' tg) (acc ++ [f z]) h' (by rw [List.length_append, List.length_cons, List.length_nil]; omega) fun y hy => q y (List.mem_cons_of_mem _ hy)
    refine ⟨z :: zs, ρ2, ?_, h2, by rw [List.length_cons, List.length_cons, hn], fun w hw => ?_⟩
    · rw [lcG_cons l1 l2, to_no]
      show kG2 F tg el .no xs acc (kOwn el (E.go F el (putE ρ tg x))) = _
      rw [e]
      show (if acc.length < sizeLine then _ else _) = _
      rw [if_pos (by rw [sz_]; omega), e2, List.append_assoc]
      rfl
    · rcases List.mem_cons.mp hw with rfl | hw
      · exact hz
      · exact hq w hw
/-- one whose items are told, one by one -/
theorem lc_map {α : Type} {tg : List Nat} {el : E} (g : α → List D) (f : α → D) (P : Ev → Prop) : ∀ (xs : List α) (ρ : Ev) (acc : List D), P ρ → acc.length + xs.length < 16777216 →
    (∀ x ∈ xs, ∀ ρ, P ρ → (g x).length = tg.length ∧ tgIn ρ tg = true ∧ ∃ (ρ' : Ev), kOwn el (E.go F el (putE ρ tg (g x))) = .ok (f x) ρ' ∧ P (wipeE ρ' tg)) →
    ∃ (ρ' : Ev), lcG F tg el .no (xs.map g) ρ acc = .ok (acc ++ xs.map f) ρ' ∧ P ρ' := by
  intro xs
  induction xs with
  | nil => intro ρ acc h _ _; exact ⟨ρ, by rw [List.map_nil, lcG_nil, List.map_nil, List.append_nil], h⟩
  | cons x xs ih =>
    intro ρ acc h hl q
    rw [List.length_cons] at hl
    obtain ⟨l1, l2, ρ', e, h'⟩ := q x List.mem_cons_self ρ h
    obtain ⟨ρ2, e2, h2⟩ := ih (wipeE ρ' tg) (acc ++ [f x]) h' (by rw [List.length_append, List.length_cons, List.length_nil]; omega) fun y hy => q y (List.mem_cons_of_mem _ hy)
    refine ⟨ρ2, ?_, h2⟩
    rw [List.map_cons, lcG_cons l1 l2, to_no]
    show kG2 F tg el .no (xs.map g) acc (kOwn el (E.go F el (putE ρ tg (g x)))) = _
    rw [e]
    show (if acc.length < sizeLine then _ else _) = _
    rw [if_pos (by rw [sz_]; omega), e2, List.append_assoc]
    rfl
/-- whole numbers, one for each of a range -/
theorem lc_rng {t : Nat} {el : E} (P : Ev → Prop) (m : Int) (h0 : 0 ≤ m) (hm : m < 16777216) (ρ : Ev) (h : P ρ)
    (q : ∀ (ρ : Ev) (i : Int), P ρ → 0 ≤ i → i < m → tgIn ρ [t] = true ∧ ∃ (z : Int) (ρ' : Ev), kOwn el (E.go F el (putE ρ [t] [.int i])) = .ok (.int z) ρ' ∧ P (wipeE ρ' [t])) :
    ∃ (zs : List Int) (ρ' : Ev), lcG F [t] el .no ((List.range m.toNat).map fun (i : Nat) => [.int i]) ρ [] = .ok (zs.map .int) ρ' ∧ P ρ' ∧ (zs.length : Int) = m := by
  have hl : ((List.range m.toNat).map fun (i : Nat) => [D.int i]).length = m.toNat := by rw [List.length_map, List.length_range]
  obtain ⟨zs, ρ', e, h', hn, _⟩ := lc_inv (F := F) (tg := [t]) (el := el) D.int P (fun _ => True) ((List.range m.toNat).map fun (i : Nat) => [.int i]) ρ [] h (by rw [hl, List.length_nil]; omega) (by
    intro x hx ρ hp
    obtain ⟨i, hi, rfl⟩ := List.mem_map.mp hx
    rw [List.mem_range] at hi
    obtain ⟨a, z, ρ', e, b⟩ := q ρ i hp (by omega) (by omega)
    exact ⟨rfl, a, z, ρ', e, b, trivial⟩)
  exact ⟨zs, ρ', e, h', by rw [hn, hl]; omega⟩
/-! ### a body's statements, one by one -/
def Ss.nth : Ss → Nat → S
  | .cons s _, 0 => s
  | .cons _ r, k + 1 => r.nth k
  | .nil, _ => .nev
def Ss.dr : Ss → Nat → Ss
  | ss, 0 => ss
  | .cons _ r, k + 1 => r.dr k
  | .nil, _ => .nil
/-- a loop's body -/
def S.fb : S → Ss
  | .for_ _ _ b => b
  | .whl _ b => b
  | _ => .nil
theorem go_step {ss : Ss} {k : Nat} {ρ ρ' : Ev} (h : ss.dr k = .cons (ss.nth k) (ss.dr (k + 1))) (e : S.go F ro (ss.nth k) ρ = .nx ρ') : Ss.go F ro (ss.dr k) ρ = Ss.go F ro (ss.dr (k + 1)) ρ' := by
  rw [h, ss_cons, e]
  rfl
theorem go_ret {ss : Ss} {k : Nat} {ρ ρ' : Ev} {d : D} (h : ss.dr k = .cons (ss.nth k) (ss.dr (k + 1))) (e : S.go F ro (ss.nth k) ρ = .ret d ρ') : Ss.go F ro (ss.dr k) ρ = .ret d ρ' := by
  rw [h, ss_cons, e]
  rfl
end Hm
end
section
set_option Elab.async false
set_option linter.all false
set_option maxRecDepth 100000
set_option maxHeartbeats 0
/-! The defs of law_k02_ranks in the small language (printed by gen.py). -/
namespace Lw
open PySem PySem.Spec PyProof.Rows L2 Hm
def top (i : Nat) : Stmt := PySem.Challenge.pw_humphollow_k02_ranks.main.body.getD i (.Pass ⟨0, 0, 0, 0⟩)
/-- ranks_of: 0 heights, 1 ranks, 2 rank, 3 height -/
def b_ranks_of : Ss := (.cons (.set 1 .dE)
  (.cons (.for_ [2, 3] (.enum (.u .sortedSet (.v 0))) (.cons (.put 1 (.v 3) (.mv 2))
  .nil))
  (.cons (.ret (.lc (.ix (.v 1) (.v 3)) [3] (.seq (.mv 0)) .no))
  .nil)))
def d_ranks_of : Df := ⟨"ranks_of", 1, 4, [], b_ranks_of⟩
def f_ranks_of : DfT := ⟨d_ranks_of, "ranks_of", "ranks_of", defArgs (top 1), defBody (top 1), defScope (top 1), ["heights", "ranks", "rank", "height"], ["heights"]⟩
/-- _law_mixed: 0 _law_cell, 1 _law_count, 2 _law_one, 3 _law_two -/
def b__law_mixed : Ss := (.cons (.set 2 (.b .mod (.u .int (.b .add (.b .add (.b .mul (.v 0) (.c (.int 48271))) (.b .mul (.v 1) (.c (.int 69621)))) (.c (.int 12345)))) (.c (.int 2147483647))))
  (.cons (.set 3 (.b .mod (.u .int (.b .add (.b .add (.b .mul (.v 2) (.v 2)) (.b .mul (.v 1) (.c (.int 40692)))) (.c (.int 7)))) (.c (.int 2147483399))))
  (.cons (.ret (.b .fdiv (.b .mod (.u .int (.b .add (.b .mul (.v 3) (.c (.int 16807))) (.v 2))) (.c (.int 2147483647))) (.c (.int 64))))
  .nil)))
def d__law_mixed : Df := ⟨"_law_mixed", 2, 4, [], b__law_mixed⟩
def f__law_mixed : DfT := ⟨d__law_mixed, "_law_mixed", "_law_mixed", defArgs (top 3), defBody (top 3), defScope (top 3), ["_law_cell", "_law_count", "_law_one", "_law_two"], ["_law_cell", "_law_count"]⟩
/-- _law_store: 0 _law_script, 1 _law_cells, 2 _law_seed, 3 _law_number_here, 4 _law_cell -/
def b__law_store : Ss := (.cons (.set 1 (.lc (.u .int (.v 4)) [4] (.scr (.v 0)) .no))
  (.cons (.set 2 (.c (.int 7)))
  (.cons (.for_ [3] (.seq (.v 1)) (.cons (.set 2 (.b .mod (.u .int (.b .add (.b .add (.b .mul (.v 2) (.c (.int 69069))) (.v 3)) (.c (.int 1)))) (.c (.int 2147483647))))
  .nil))
  (.cons (.ret (.lst (.cons (.mv 1) (.cons (.c (.int 0)) (.cons (.c (.int 0)) (.cons (.c (.int 0)) (.cons (.mv 2) .nil)))))))
  .nil))))
def d__law_store : Df := ⟨"_law_store", 1, 5, [], b__law_store⟩
def f__law_store : DfT := ⟨d__law_store, "_law_store", "_law_store", defArgs (top 4), defBody (top 4), defScope (top 4), ["_law_script", "_law_cells", "_law_seed", "_law_number_here", "_law_cell"], ["_law_script"]⟩
/-- _law_take: 0 _law_store_here, 1 _law_many, 2 _law_rest, 3 _law_cell -/
def b__law_take : Ss := (.cons (.iff (.e (.b .lt (.v 1) (.c (.int 2)))) (.cons (.ret (.c (.int 0)))
  .nil) .nil)
  (.cons (.put 0 (.c (.int 3)) (.b .add (.ix (.v 0) (.c (.int 3))) (.c (.int 1))))
  (.cons (.set 2 (.ix (.v 0) (.c (.int 2))))
  (.cons (.iff (.an (.e (.b .lt (.v 2) (.c (.int 2)))) (.one (.e (.b .lt (.ix (.v 0) (.c (.int 1))) (.u .len (.ix (.v 0) (.c (.int 0)))))))) (.cons (.set 3 (.ix (.ix (.v 0) (.c (.int 0))) (.ix (.v 0) (.c (.int 1)))))
  (.cons (.put 0 (.c (.int 1)) (.b .add (.ix (.v 0) (.c (.int 1))) (.c (.int 1))))
  (.cons (.set 2 (.u .abs (.v 3)))
  (.cons (.iff (.e (.b .lt (.v 2) (.b .pow (.c (.int 10)) (.c (.int 18))))) (.cons (.ret (.b .mod (.u .int (.call 1 (.cons (.mv 3) (.cons (.ix (.v 0) (.c (.int 3))) .nil)))) (.v 1)))
  .nil) .nil)
  .nil)))) .nil)
  (.cons (.iff (.e (.b .gt (.v 2) (.c (.int 1)))) (.cons (.put 0 (.c (.int 2)) (.b .fdiv (.v 2) (.v 1)))
  (.cons (.ret (.b .mod (.u .int (.v 2)) (.v 1)))
  .nil)) .nil)
  (.cons (.put 0 (.c (.int 2)) (.c (.int 0)))
  (.cons (.ret (.b .mod (.u .int (.call 1 (.cons (.b .add (.ix (.v 0) (.c (.int 4))) (.c (.int 1000003))) (.cons (.ix (.v 0) (.c (.int 3))) .nil)))) (.v 1)))
  .nil)))))))
def d__law_take : Df := ⟨"_law_take", 2, 4, [0], b__law_take⟩
def f__law_take : DfT := ⟨d__law_take, "_law_take", "_law_take", defArgs (top 5), defBody (top 5), defScope (top 5), ["_law_store_here", "_law_many", "_law_rest", "_law_cell"], ["_law_store_here", "_law_many"]⟩
/-- _law_pick: 0 _law_store_here, 1 _law_rows -/
def b__law_pick : Ss := (.cons (.ret (.ix (.sv 1) (.call 3 (.cons (.io 0) (.cons (.u .len (.v 1)) .nil)))))
  .nil)
def d__law_pick : Df := ⟨"_law_pick", 2, 2, [0], b__law_pick⟩
def f__law_pick : DfT := ⟨d__law_pick, "_law_pick", "_law_pick", defArgs (top 6), defBody (top 6), defScope (top 6), ["_law_store_here", "_law_rows"], ["_law_store_here", "_law_rows"]⟩
/-- _law_number: 0 _law_store_here, 1 _law_low, 2 _law_high -/
def b__law_number : Ss := (.cons (.iff (.e (.b .eq (.call 3 (.cons (.io 0) (.cons (.c (.int 3)) .nil))) (.c (.int 0)))) (.cons (.ret (.ix (.lst (.cons (.v 1) (.cons (.v 2) (.cons (.b .min2 (.b .add (.v 1) (.c (.int 1))) (.v 2)) (.cons (.b .max2 (.b .sub (.v 2) (.c (.int 1))) (.v 1)) .nil))))) (.call 3 (.cons (.io 0) (.cons (.c (.int 4)) .nil)))))
  .nil) .nil)
  (.cons (.ret (.b .add (.v 1) (.call 3 (.cons (.io 0) (.cons (.b .add (.b .sub (.v 2) (.v 1)) (.c (.int 1))) .nil)))))
  .nil))
def d__law_number : Df := ⟨"_law_number", 3, 3, [0], b__law_number⟩
def f__law_number : DfT := ⟨d__law_number, "_law_number", "_law_number", defArgs (top 7), defBody (top 7), defScope (top 7), ["_law_store_here", "_law_low", "_law_high"], ["_law_store_here", "_law_low", "_law_high"]⟩
/-- _law_wide: 0 _law_store_here, 1 _law_number_here, 2 _law_k, 3 _law_edges -/
def b__law_wide : Ss := (.cons (.iff (.e (.b .eq (.call 3 (.cons (.io 0) (.cons (.c (.int 4)) .nil))) (.c (.int 0)))) (.cons (.set 3 (.lst (.cons (.c (.int 0)) (.cons (.c (.int 1)) (.cons (.u .neg (.c (.int 1))) (.cons (.c (.int 2)) (.cons (.c (.int 6)) (.cons (.c (.int 10)) (.cons (.c (.int 11)) (.cons (.c (.int 400)) (.cons (.c (.int 401)) (.cons (.c (.int 9999)) (.cons (.u .neg (.c (.int 9999))) (.cons (.c (.int 10000)) (.cons (.u .neg (.c (.int 10000))) (.cons (.b .sub (.b .pow (.c (.int 10)) (.c (.int 40))) (.c (.int 1))) (.cons (.b .sub (.c (.int 1)) (.b .pow (.c (.int 10)) (.c (.int 40)))) .nil)))))))))))))))))
  (.cons (.ret (.call 4 (.cons (.io 0) (.cons (.mv 3) .nil))))
  .nil)) .nil)
  (.cons (.set 1 (.c (.int 0)))
  (.cons (.for_ [2] (.rng (.b .add (.c (.int 1)) (.call 3 (.cons (.io 0) (.cons (.c (.int 10)) .nil))))) (.cons (.set 1 (.b .add (.b .mul (.v 1) (.c (.int 10000))) (.call 3 (.cons (.io 0) (.cons (.c (.int 10000)) .nil)))))
  .nil))
  (.cons (.iff (.e (.b .eq (.call 3 (.cons (.io 0) (.cons (.c (.int 3)) .nil))) (.c (.int 0)))) (.cons (.ret (.u .neg (.v 1)))
  .nil) .nil)
  (.cons (.ret (.mv 1))
  .nil)))))
def d__law_wide : Df := ⟨"_law_wide", 1, 4, [0], b__law_wide⟩
def f__law_wide : DfT := ⟨d__law_wide, "_law_wide", "_law_wide", defArgs (top 8), defBody (top 8), defScope (top 8), ["_law_store_here", "_law_number_here", "_law_k", "_law_edges"], ["_law_store_here"]⟩
/-- _law_disorder: 0 _law_store_here, 1 _law_rows, 2 _law_left, 3 _law_kind, 4 _law_k, 5 _law_other, 6 _law_kept -/
def b__law_disorder : Ss := (.cons (.set 2 (.u .list (.v 1)))
  (.cons (.set 3 (.call 3 (.cons (.io 0) (.cons (.c (.int 4)) .nil))))
  (.cons (.iff (.e (.b .eq (.v 3) (.c (.int 0)))) (.cons (.ret (.mv 2))
  .nil) .nil)
  (.cons (.iff (.e (.b .eq (.v 3) (.c (.int 1)))) (.cons (.ret (.u .rev (.v 2)))
  .nil) .nil)
  (.cons (.for_ [4] (.rng (.b .sub (.u .len (.v 2)) (.c (.int 1)))) (.cons (.set 5 (.b .add (.v 4) (.call 3 (.cons (.io 0) (.cons (.b .sub (.u .len (.v 2)) (.v 4)) .nil)))))
  (.cons (.set 6 (.ix (.v 2) (.v 4)))
  (.cons (.put 2 (.v 4) (.ix (.v 2) (.v 5)))
  (.cons (.put 2 (.v 5) (.mv 6))
  .nil)))))
  (.cons (.ret (.mv 2))
  .nil))))))
def d__law_disorder : Df := ⟨"_law_disorder", 2, 7, [0], b__law_disorder⟩
def f__law_disorder : DfT := ⟨d__law_disorder, "_law_disorder", "_law_disorder", defArgs (top 9), defBody (top 9), defScope (top 9), ["_law_store_here", "_law_rows", "_law_left", "_law_kind", "_law_k", "_law_other", "_law_kept"], ["_law_store_here", "_law_rows"]⟩
/-- _law_same: 0 _law_one, 1 _law_two, 2 _law_k, 3 _law_key -/
def b__law_same : Ss := (.cons (.iff (.or (.e (.b .isN (.v 0) (.c .non))) (.one (.e (.b .isN (.v 1) (.c .non))))) (.cons (.ret (.tb (.an (.e (.b .isN (.v 0) (.c .non))) (.one (.e (.b .isN (.v 1) (.c .non)))))))
  .nil) .nil)
  (.cons (.iff (.or (.e (.u (.isi [.bool]) (.v 0))) (.one (.e (.u (.isi [.bool]) (.v 1))))) (.cons (.ret (.tb (.an (.e (.u (.isi [.bool]) (.v 0))) (.an (.e (.u (.isi [.bool]) (.v 1))) (.one (.e (.b .eq (.v 0) (.v 1))))))))
  .nil) .nil)
  (.cons (.iff (.or (.e (.u (.isi [.int]) (.v 0))) (.one (.e (.u (.isi [.int]) (.v 1))))) (.cons (.ret (.tb (.an (.e (.u (.isi [.int]) (.v 0))) (.an (.e (.u (.isi [.int]) (.v 1))) (.one (.e (.b .eq (.v 0) (.v 1))))))))
  .nil) .nil)
  (.cons (.iff (.or (.e (.u (.isi [.str]) (.v 0))) (.one (.e (.u (.isi [.str]) (.v 1))))) (.cons (.ret (.tb (.an (.e (.u (.isi [.str]) (.v 0))) (.an (.e (.u (.isi [.str]) (.v 1))) (.one (.e (.b .eq (.v 0) (.v 1))))))))
  .nil) .nil)
  (.cons (.iff (.or (.e (.u (.isi [.dict]) (.v 0))) (.one (.e (.u (.isi [.dict]) (.v 1))))) (.cons (.iff (.or (.nt (.e (.u (.isi [.dict]) (.v 0)))) (.one (.nt (.e (.u (.isi [.dict]) (.v 1)))))) (.cons (.ret (.c (.bl false)))
  .nil) .nil)
  (.cons (.ret (.call 8 (.cons (.lc (.tup (.cons (.v 3) (.cons (.ix (.sv 0) (.v 3)) .nil))) [3] (.seq (.v 0)) .no) (.cons (.lc (.tup (.cons (.v 3) (.cons (.ix (.sv 1) (.v 3)) .nil))) [3] (.seq (.v 1)) .no) .nil))))
  .nil)) .nil)
  (.cons (.iff (.or (.nt (.e (.u (.isi [.list, .tuple]) (.v 0)))) (.one (.nt (.e (.u (.isi [.list, .tuple]) (.v 1)))))) (.cons (.ret (.c (.bl false)))
  .nil) .nil)
  (.cons (.iff (.or (.e (.b .ne (.u (.isi [.list]) (.v 0)) (.u (.isi [.list]) (.v 1)))) (.one (.e (.b .ne (.u .len (.v 0)) (.u .len (.v 1)))))) (.cons (.ret (.c (.bl false)))
  .nil) .nil)
  (.cons (.for_ [2] (.rng (.u .len (.v 0))) (.cons (.iff (.nt (.e (.call 8 (.cons (.ix (.sv 0) (.v 2)) (.cons (.ix (.sv 1) (.v 2)) .nil))))) (.cons (.ret (.c (.bl false)))
  .nil) .nil)
  .nil))
  (.cons (.ret (.c (.bl true)))
  .nil)))))))))
def d__law_same : Df := ⟨"_law_same", 2, 4, [], b__law_same⟩
def f__law_same : DfT := ⟨d__law_same, "_law_same", "_law_same", defArgs (top 10), defBody (top 10), defScope (top 10), ["_law_one", "_law_two", "_law_k", "_law_key"], ["_law_one", "_law_two"]⟩
/-- _law_any_height: 0 _law_store_here, 1 _law_kind -/
def b__law_any_height : Ss := (.cons (.set 1 (.call 3 (.cons (.io 0) (.cons (.c (.int 4)) .nil))))
  (.cons (.iff (.e (.b .eq (.v 1) (.c (.int 0)))) (.cons (.ret (.call 4 (.cons (.io 0) (.cons (.lst (.cons (.c (.int 0)) (.cons (.c (.int 1)) (.cons (.u .neg (.c (.int 1))) (.cons (.c (.int 9)) (.cons (.c (.int 10)) (.cons (.u .neg (.c (.int 10))) (.cons (.c (.int 9999)) (.cons (.u .neg (.c (.int 9999))) (.cons (.c (.int 9998)) (.cons (.u .neg (.c (.int 9998))) (.cons (.c (.int 100)) (.cons (.c (.int 999)) (.cons (.c (.int 1000)) .nil)))))))))))))) .nil))))
  .nil) .nil)
  (.cons (.iff (.e (.b .eq (.v 1) (.c (.int 1)))) (.cons (.ret (.b .sub (.call 3 (.cons (.io 0) (.cons (.c (.int 20)) .nil))) (.c (.int 10))))
  .nil) .nil)
  (.cons (.ret (.b .sub (.call 3 (.cons (.io 0) (.cons (.c (.int 19999)) .nil))) (.c (.int 9999))))
  .nil))))
def d__law_any_height : Df := ⟨"_law_any_height", 1, 2, [0], b__law_any_height⟩
def f__law_any_height : DfT := ⟨d__law_any_height, "_law_any_height", "_law_any_height", defArgs (top 11), defBody (top 11), defScope (top 11), ["_law_store_here", "_law_kind"], ["_law_store_here"]⟩
/-- _law_heights: 0 _law_store_here, 1 _law_many, 2 _law_style, 3 _law_base, 4 _law_rows, 5 _law_k -/
def b__law_heights : Ss := (.cons (.set 2 (.call 3 (.cons (.io 0) (.cons (.c (.int 8)) .nil))))
  (.cons (.set 3 (.call 4 (.cons (.io 0) (.cons (.lst (.cons (.c (.int 0)) (.cons (.c (.int 0)) (.cons (.c (.int 0)) (.cons (.u .neg (.c (.int 2))) (.cons (.c (.int 3)) (.cons (.c (.int 9995)) (.cons (.u .neg (.c (.int 9999))) (.cons (.c (.int 120)) .nil))))))))) .nil))))
  (.cons (.iff (.e (.b .eq (.v 2) (.c (.int 0)))) (.cons (.ret (.lc (.v 3) [5] (.rng (.v 1)) .no))
  .nil) .nil)
  (.cons (.iff (.e (.b .eq (.v 2) (.c (.int 1)))) (.cons (.ret (.lc (.b .add (.v 3) (.b .mul (.c (.int 4)) (.call 3 (.cons (.io 0) (.cons (.c (.int 2)) .nil))))) [5] (.rng (.v 1)) .no))
  .nil) .nil)
  (.cons (.iff (.e (.b .eq (.v 2) (.c (.int 2)))) (.cons (.set 4 (.call 7 (.cons (.io 0) (.cons (.lr (.v 1)) .nil))))
  (.cons (.ret (.lc (.b .sub (.ix (.v 4) (.v 5)) (.c (.int 5))) [5] (.rng (.v 1)) .no))
  .nil)) .nil)
  (.cons (.iff (.e (.b .eq (.v 2) (.c (.int 3)))) (.cons (.ret (.lc (.call 9 (.cons (.io 0) .nil)) [5] (.rng (.v 1)) .no))
  .nil) .nil)
  (.cons (.iff (.e (.b .eq (.v 2) (.c (.int 4)))) (.cons (.ret (.lc (.call 4 (.cons (.io 0) (.cons (.lst (.cons (.u .neg (.c (.int 9999))) (.cons (.u .neg (.c (.int 1))) (.cons (.c (.int 0)) (.cons (.c (.int 1)) (.cons (.c (.int 9999)) .nil)))))) .nil))) [5] (.rng (.v 1)) .no))
  .nil) .nil)
  (.cons (.ret (.lc (.b .add (.v 3) (.call 3 (.cons (.io 0) (.cons (.b .add (.c (.int 3)) (.b .mul (.c (.int 2)) (.u .int (.b .lt (.v 2) (.c (.int 7)))))) .nil)))) [5] (.rng (.v 1)) .no))
  .nil))))))))
def d__law_heights : Df := ⟨"_law_heights", 2, 6, [0], b__law_heights⟩
def f__law_heights : DfT := ⟨d__law_heights, "_law_heights", "_law_heights", defArgs (top 12), defBody (top 12), defScope (top 12), ["_law_store_here", "_law_many", "_law_style", "_law_base", "_law_rows", "_law_k"], ["_law_store_here", "_law_many"]⟩
/-- _law_numbers: 0 _law_store_here, 1 _law_size, 2 _law_kind, 3 _law_rows, 4 _law_base, 5 _law_numbers_here, 6 _law_k -/
def b__law_numbers : Ss := (.cons (.set 1 (.call 5 (.cons (.io 0) (.cons (.c (.int 0)) (.cons (.c (.int 12)) .nil)))))
  (.cons (.iff (.e (.b .eq (.call 3 (.cons (.io 0) (.cons (.c (.int 8)) .nil))) (.c (.int 0)))) (.cons (.set 1 (.b .add (.c (.int 13)) (.call 3 (.cons (.io 0) (.cons (.c (.int 68)) .nil)))))
  .nil) .nil)
  (.cons (.set 2 (.call 3 (.cons (.io 0) (.cons (.c (.int 4)) .nil))))
  (.cons (.iff (.e (.b .eq (.v 2) (.c (.int 0)))) (.cons (.set 3 (.call 10 (.cons (.io 0) (.cons (.v 1) .nil))))
  .nil) (.cons (.iff (.e (.b .eq (.v 2) (.c (.int 1)))) (.cons (.set 3 (.lc (.call 6 (.cons (.io 0) .nil)) [6] (.rng (.b .min2 (.v 1) (.c (.int 20)))) .no))
  .nil) (.cons (.iff (.e (.b .eq (.v 2) (.c (.int 2)))) (.cons (.set 4 (.b .fdiv (.call 6 (.cons (.io 0) .nil)) (.c (.int 10))))
  (.cons (.set 3 (.lc (.b .add (.v 4) (.call 3 (.cons (.io 0) (.cons (.c (.int 6)) .nil)))) [6] (.rng (.v 1)) .no))
  .nil)) (.cons (.set 5 (.lc (.call 6 (.cons (.io 0) .nil)) [6] (.rng (.b .add (.c (.int 1)) (.call 3 (.cons (.io 0) (.cons (.c (.int 4)) .nil))))) .no))
  (.cons (.set 3 (.lc (.call 4 (.cons (.io 0) (.cons (.v 5) .nil))) [6] (.rng (.v 1)) .no))
  .nil)))
  .nil))
  .nil))
  (.cons (.iff (.an (.e (.b .eq (.call 3 (.cons (.io 0) (.cons (.c (.int 48)) .nil))) (.c (.int 0)))) (.one (.e (.b .gt (.v 1) (.c (.int 0)))))) (.cons (.set 3 (.sl (.b .mul (.v 3) (.c (.int 500))) .no (.yes (.c (.int 500)))))
  .nil) .nil)
  (.cons (.iff (.e (.b .eq (.call 3 (.cons (.io 0) (.cons (.c (.int 6)) .nil))) (.c (.int 0)))) (.cons (.ret (.u .sorted (.v 3)))
  .nil) .nil)
  (.cons (.ret (.mv 3))
  .nil)))))))
def d__law_numbers : Df := ⟨"_law_numbers", 1, 7, [0], b__law_numbers⟩
def f__law_numbers : DfT := ⟨d__law_numbers, "_law_numbers", "_law_numbers", defArgs (top 13), defBody (top 13), defScope (top 13), ["_law_store_here", "_law_size", "_law_kind", "_law_rows", "_law_base", "_law_numbers_here", "_law_k"], ["_law_store_here"]⟩
/-- _law_due_ranks: 0 _law_rows, 1 _law_found, 2 _law_number_here -/
def b__law_due_ranks : Ss := (.cons (.set 1 (.lst .nil))
  (.cons (.for_ [2] (.seq (.u .sorted (.v 0))) (.cons (.iff (.or (.e (.b .eq (.v 1) (.lst .nil))) (.one (.e (.b .lt (.ix (.v 1) (.b .sub (.u .len (.v 1)) (.c (.int 1)))) (.v 2))))) (.cons (.app 1 (.v 2))
  .nil) .nil)
  .nil))
  (.cons (.ret (.lc (.idx (.v 1) (.v 2)) [2] (.seq (.mv 0)) .no))
  .nil)))
def d__law_due_ranks : Df := ⟨"_law_due_ranks", 1, 3, [], b__law_due_ranks⟩
def f__law_due_ranks : DfT := ⟨d__law_due_ranks, "_law_due_ranks", "_law_due_ranks", defArgs (top 14), defBody (top 14), defScope (top 14), ["_law_rows", "_law_found", "_law_number_here"], ["_law_rows"]⟩
/-- law: 0 _law_script, 1 _law_store_here, 2 _law_one, 3 _law_two, 4 _law_more, 5 _law_rows, 6 _law_handed, 7 _law_told -/
def b_law : Ss := (.cons (.set 1 (.call 2 (.cons (.mv 0) .nil)))
  (.cons (.set 2 (.call 11 (.cons (.io 1) .nil)))
  (.cons (.set 3 (.call 11 (.cons (.io 1) .nil)))
  (.cons (.set 4 (.call 6 (.cons (.io 1) .nil)))
  (.cons (.for_ [5] (.seq (.lst (.cons (.v 2) (.cons (.mv 3) (.cons (.v 2) .nil))))) (.cons (.set 6 (.u .list (.v 5)))
  (.cons (.set 7 (.call 0 (.cons (.ln 6) .nil)))
  (.cons (.iff (.or (.nt (.e (.call 8 (.cons (.ln 7) (.cons (.call 12 (.cons (.v 5) .nil)) .nil))))) (.one (.nt (.e (.call 8 (.cons (.ln 6) (.cons (.v 5) .nil))))))) (.cons (.ret (.c (.bl false)))
  .nil) .nil)
  (.cons (.app 7 (.c (.int 0)))
  (.cons (.put 7 (.c (.int 0)) (.b .sub (.ix (.v 7) (.c (.int 0))) (.c (.int 1))))
  (.cons (.iff (.or (.nt (.e (.call 8 (.cons (.call 0 (.cons (.ln 6) .nil)) (.cons (.call 12 (.cons (.v 5) .nil)) .nil))))) (.one (.nt (.e (.call 8 (.cons (.ln 6) (.cons (.v 5) .nil))))))) (.cons (.ret (.c (.bl false)))
  .nil) .nil)
  .nil)))))))
  (.cons (.set 6 (.u .list (.v 2)))
  (.cons (.set 7 (.call 0 (.cons (.ln 6) .nil)))
  (.cons (.iff (.e (.b .lt (.u .len (.v 6)) (.c (.int 500)))) (.cons (.app 6 (.v 4))
  (.cons (.iff (.nt (.e (.call 8 (.cons (.mv 7) (.cons (.call 12 (.cons (.v 2) .nil)) .nil))))) (.cons (.ret (.c (.bl false)))
  .nil) .nil)
  (.cons (.ret (.call 8 (.cons (.call 0 (.cons (.mv 6) .nil)) (.cons (.call 12 (.cons (.b .add (.v 2) (.lst (.cons (.mv 4) .nil))) .nil)) .nil))))
  .nil))) .nil)
  (.cons (.ret (.call 8 (.cons (.mv 7) (.cons (.call 12 (.cons (.mv 2) .nil)) .nil))))
  .nil)))))))))
def d_law : Df := ⟨"law", 1, 8, [], b_law⟩
def f_law : DfT := ⟨d_law, "law", "law", defArgs (top 15), defBody (top 15), defScope (top 15), ["_law_script", "_law_store_here", "_law_one", "_law_two", "_law_more", "_law_rows", "_law_handed", "_law_told"], ["_law_script"]⟩
def fs : List DfT := [f_ranks_of, f__law_mixed, f__law_store, f__law_take, f__law_pick, f__law_number, f__law_wide, f__law_disorder, f__law_same, f__law_any_height, f__law_heights, f__law_numbers, f__law_due_ranks, f_law]
def tab : Tab := ⟨fs.map fun f => (f.x, f.ps.length), [], ["enumerate", "sorted", "set", "int", "len", "abs", "min", "max", "range", "list", "isinstance", "bool", "str", "dict", "tuple"]⟩
theorem ok_ranks_of : f_ranks_of.ok tab = true := by decide +kernel
theorem ok__law_mixed : f__law_mixed.ok tab = true := by decide +kernel
theorem ok__law_store : f__law_store.ok tab = true := by decide +kernel
theorem ok__law_take : f__law_take.ok tab = true := by decide +kernel
theorem ok__law_pick : f__law_pick.ok tab = true := by decide +kernel
theorem ok__law_number : f__law_number.ok tab = true := by decide +kernel
theorem ok__law_wide : f__law_wide.ok tab = true := by decide +kernel
theorem ok__law_disorder : f__law_disorder.ok tab = true := by decide +kernel
theorem ok__law_same : f__law_same.ok tab = true := by decide +kernel
theorem ok__law_any_height : f__law_any_height.ok tab = true := by decide +kernel
theorem ok__law_heights : f__law_heights.ok tab = true := by decide +kernel
theorem ok__law_numbers : f__law_numbers.ok tab = true := by decide +kernel
theorem ok__law_due_ranks : f__law_due_ranks.ok tab = true := by decide +kernel
theorem ok_law : f_law.ok tab = true := by decide +kernel
theorem ok : fs.all (fun f => f.ok tab) = true := by decide +kernel
theorem bd_ranks_of : BindP f_ranks_of := fun _ _ _ _ _ _ us hl => match us, hl with | [_], _ => rfl
theorem bd__law_mixed : BindP f__law_mixed := fun _ _ _ _ _ _ us hl => match us, hl with | [_, _], _ => rfl
theorem bd__law_store : BindP f__law_store := fun _ _ _ _ _ _ us hl => match us, hl with | [_], _ => rfl
theorem bd__law_take : BindP f__law_take := fun _ _ _ _ _ _ us hl => match us, hl with | [_, _], _ => rfl
theorem bd__law_pick : BindP f__law_pick := fun _ _ _ _ _ _ us hl => match us, hl with | [_, _], _ => rfl
theorem bd__law_number : BindP f__law_number := fun _ _ _ _ _ _ us hl => match us, hl with | [_, _, _], _ => rfl
theorem bd__law_wide : BindP f__law_wide := fun _ _ _ _ _ _ us hl => match us, hl with | [_], _ => rfl
theorem bd__law_disorder : BindP f__law_disorder := fun _ _ _ _ _ _ us hl => match us, hl with | [_, _], _ => rfl
theorem bd__law_same : BindP f__law_same := fun _ _ _ _ _ _ us hl => match us, hl with | [_, _], _ => rfl
theorem bd__law_any_height : BindP f__law_any_height := fun _ _ _ _ _ _ us hl => match us, hl with | [_], _ => rfl
theorem bd__law_heights : BindP f__law_heights := fun _ _ _ _ _ _ us hl => match us, hl with | [_, _], _ => rfl
theorem bd__law_numbers : BindP f__law_numbers := fun _ _ _ _ _ _ us hl => match us, hl with | [_], _ => rfl
theorem bd__law_due_ranks : BindP f__law_due_ranks := fun _ _ _ _ _ _ us hl => match us, hl with | [_], _ => rfl
theorem bd_law : BindP f_law := fun _ _ _ _ _ _ us hl => match us, hl with | [_], _ => rfl
theorem bds : AllB fs := ⟨bd_ranks_of, bd__law_mixed, bd__law_store, bd__law_take, bd__law_pick, bd__law_number, bd__law_wide, bd__law_disorder, bd__law_same, bd__law_any_height, bd__law_heights, bd__law_numbers, bd__law_due_ranks, bd_law, trivial⟩
abbrev R : PySem.W.OpenRow := PySem.W.OpenLaw.row PySem.Challenge.rw_humphollow_k02_ranks
abbrev fn : List He.DefD := fs.map DfT.dd
abbrev fa : List He.Fa := tabFa tab
abbrev hk : PySem.W.Hook := He.hookD 4 fa fn
def ob (s : PySem.W.SharedT) : He.AlD := He.obsDG 4 fa fn (HandSHeadRun.getT s)
theorem ob_eq (s : PySem.W.SharedT) : ob s = hk.obs s.abs := He.obsDG_eq (HandSHeadRun.getT_eq s)
abbrev loose : List PySem.Str := (["ranks_of", "_law_mixed", "_law_store", "_law_take", "_law_pick", "_law_number", "_law_wide", "_law_disorder", "_law_same", "_law_any_height", "_law_heights", "_law_numbers", "_law_due_ranks"] : List PySem.Str)
theorem run (w : World) : HandSHeadRun.RunEq R (PySem.W.view R.prog [15]) hk ob 6000 loose w := by
  intro os
  kernel_rfl
def F (k : Nat) : Orc := call (fs.map DfT.d) k
end Lw
end
section
set_option Elab.async false
set_option linter.all false
set_option maxRecDepth 100000
set_option maxHeartbeats 1000000
namespace Lw
open PySem PySem.Spec PyProof.Rows L2 Hm
theorem fm1 (x : Int) : (-18446744073709551616 < x.fmod 2147483647) = True := eq_true (by have := Int.fmod_nonneg_of_pos x (show (0 : Int) < 2147483647 by decide); omega)
theorem fm2 (x : Int) : (x.fmod 2147483647 < 18446744073709551616) = True := eq_true (by have := Int.fmod_lt_of_pos x (show (0 : Int) < 2147483647 by decide); omega)
theorem cl1 (n : Nat) (ds : List D) : F (n + 1) 1 ds = d__law_mixed.run (F n) ds := rfl
theorem mixed (n : Nat) (a c : Int) : ∃ m, F (n + 1) 1 [.int a, .int c] = .ok (.int m) [none, none] := by
  rw [cl1, Df.run_eq _ _ _ rfl]
  show ∃ m, (Ss.go (F n) [] b__law_mixed [some (.int a), some (.int c), none, none]).toCR d__law_mixed = .ok (.int m) [none, none]
  simp only [b__law_mixed, fm1, fm2, Hm.s_set, Hm.s_for, Hm.as_c, Hm.as_g, Hm.as_v, Hm.as_mv, Hm.as_u, Hm.as_b, Hm.as_ix, Hm.as_sl, Hm.as_ch, Hm.as_tb, Hm.as_ife, Hm.as_tup, Hm.as_lst, Hm.as_call, Hm.as_idx, Hm.as_lc, Hm.as_dE, Hm.as_sv, Hm.as_lr, Hm.go_ch, List.contains_nil, List.contains_cons, Nat.reduceBEq, List.any_cons, List.any_nil, beq_self_eq_true, Hm.go_c, Hm.go_g, Hm.go_v, Hm.go_mv, Hm.go_sv, Hm.go_u, Hm.go_b, Hm.go_ix, Hm.go_sl, Hm.go_tb, Hm.go_ife, Hm.go_tup, Hm.go_lst, Hm.go_call, Hm.go_idx, Hm.go_lc, Hm.go_dE, Hm.go_lr, Hm.tst_an, Hm.tst_or, Hm.tst_nt, Hm.tst_one, Hm.tst_e, Hm.val_an, Hm.val_or, Hm.val_nt, Hm.val_one, Hm.val_e, Hm.eo_no, Hm.eo_yes, Hm.to_no, Hm.to_yes, Hm.es_nil, Hm.es_cons, Hm.as_nil, Hm.as_io, Hm.as_ln, Hm.it_seq, Hm.it_scr, Hm.it_rng, Hm.it_enum, Hm.s_expr, Hm.s_ret, Hm.s_iff, Hm.s_app, Hm.s_put, Hm.s_pass, Hm.s_brk, Hm.s_cnt, Hm.ss_nil, Hm.ss_cons, Hm.kU_1, Hm.kU_2, Hm.kU_3, Hm.kB2_1, Hm.kB2_2, Hm.kB2_3, Hm.kB1_1, Hm.kB1_2, Hm.kB1_3, Hm.kI2_1, Hm.kI2_2, Hm.kI2_3, Hm.kI1_1, Hm.kI1_2, Hm.kI1_3, Hm.kS3_1, Hm.kS3_2, Hm.kS3_3, Hm.kS2_1, Hm.kS2_2, Hm.kS2_3, Hm.kS1_1, Hm.kS1_2, Hm.kS1_3, Hm.kC3_1, Hm.kC3_2, Hm.kC3_3, Hm.kC2'_1, Hm.kC2'_2, Hm.kC2_1, Hm.kC2_2, Hm.kC2_3, Hm.kC1_1, Hm.kC1_2, Hm.kC1_3, Hm.kTb_1, Hm.kTb_2, Hm.kTb_3, Hm.kIf_1, Hm.kIf_2, Hm.kIf_3, Hm.kIf_4, Hm.kTup_1, Hm.kTup_2, Hm.kTup_3, Hm.kLst_1, Hm.kLst_2, Hm.kLst_3, Hm.kCall_1, Hm.kCall_2, Hm.kCall_3, Hm.kX2_1, Hm.kX2_2, Hm.kX2_3, Hm.kX1_1, Hm.kX1_2, Hm.kX1_3, Hm.kL2_1, Hm.kL1_1, Hm.kL1_2, Hm.kL1_3, Hm.kLr_1, Hm.kLr_2, Hm.kLr_3, Hm.kOwn_1, Hm.kOwn_2, Hm.kOwn_3, Hm.kAn_1, Hm.kAn_2, Hm.kAn_3, Hm.kAn_4, Hm.kOr_1, Hm.kOr_2, Hm.kOr_3, Hm.kOr_4, Hm.kNt_1, Hm.kNt_2, Hm.kNt_3, Hm.kTr'_1, Hm.kTr'_2, Hm.kTr_1, Hm.kTr_2, Hm.kTr_3, Hm.kAnV_1, Hm.kAnV_2, Hm.kAnV_3, Hm.kAnV_4, Hm.kOrV_1, Hm.kOrV_2, Hm.kOrV_3, Hm.kOrV_4, Hm.kVl_1, Hm.kVl_2, Hm.kVl_3, Hm.kEo_1, Hm.kEo_2, Hm.kEo_3, Hm.kEs2_1, Hm.kEs2_2, Hm.kEs2_3, Hm.kEs1_1, Hm.kEs1_2, Hm.kEs1_3, Hm.kAs2_1, Hm.kAs2_2, Hm.kAs2_3, Hm.kAs1_1, Hm.kAs1_2, Hm.kAs1_3, Hm.kW_1, Hm.kW_2, Hm.kSq_1, Hm.kSq_2, Hm.kSq_3, Hm.kScr_1, Hm.kScr_2, Hm.kScr_3, Hm.kRg_1, Hm.kRg_2, Hm.kRg_3, Hm.kEn_1, Hm.kEn_2, Hm.kEn_3, Hm.kSet_1, Hm.kSet_2, Hm.kSet_3, Hm.kExp_1, Hm.kExp_2, Hm.kExp_3, Hm.kRet_1, Hm.kRet_2, Hm.kRet_3, Hm.kIff_1, Hm.kIff_2, Hm.kIff_3, Hm.kIff_4, Hm.kAp2_1, Hm.kAp1_1, Hm.kAp1_2, Hm.kAp1_3, Hm.kAp_1, Hm.kPl_1, Hm.kPl_2, Hm.kPd_1, Hm.kPd_2, Hm.kPk_1, Hm.kPk_2, Hm.kP3_1, Hm.kP3_2, Hm.kP2_1, Hm.kP2_2, Hm.kP2_3, Hm.kP1_1, Hm.kP1_2, Hm.kP1_3, Hm.kFor_1, Hm.kFor_2, Hm.kFor_3, Hm.kSeq_1, Hm.kSeq_2, Hm.kSeq_3, Hm.kSeq_4, Hm.kSeq_5, Hm.kSeq_6, Hm.kOp_s, Hm.kOp_n, Hm.kV_1, Hm.kMv_1, Hm.kSv_1, Hm.cr_1, Hm.cr_2, Hm.add_i, Hm.sub_i, Hm.mul_r, Hm.mul_l, Hm.mod_i, Hm.fdiv_i, Hm.lt_i, Hm.le_i, Hm.gt_i, Hm.ge_i, Hm.eq_i, Hm.eq_b, Hm.eq_s, Hm.ne_i, Hm.ne_b, Hm.min_i, Hm.max_i, Hm.isN_, Hm.notN_, Hm.neg_i, Hm.abs_i, Hm.int_i, Hm.int_b, Hm.len_l, Hm.len_t, Hm.ix_l, Hm.ix_t, Hm.tru_b, Hm.tru_i, Hm.own_i, Hm.ownV_v, Hm.lst_, Hm.tup_, Hm.sz_, Hm.join_s, Hm.join_n, Hm.at_0, Hm.at_1, Hm.at_2, Hm.at_3, Hm.at_4, Hm.at_5, Hm.at_6, Hm.at_7, Hm.at_8, Hm.at_9, Hm.at_10, Hm.at_11, Hm.at_12, Hm.at_13, Hm.at_14, Hm.at_15, Hm.at_16, Hm.at_17, Hm.at_18, Hm.at_19, Hm.at_20, Hm.at_21, Hm.at_22, Hm.at_23, Hm.at_24, Hm.at_25, Hm.ix5_0, Hm.ix5_1, Hm.ix5_2, Hm.ix5_3, Hm.ix5_4, Hm.pow_18, Hm.pow_39, Hm.pow_40, held, D.isC, isCs, E.pu, D.isNon, Cn.d, List.length_cons, List.length_nil, List.getElem?_cons_zero, List.getElem?_cons_succ, List.getElem?_nil, List.set_cons_zero, List.set_cons_succ, List.map_cons, List.map_nil, Option.map_some, Option.map_none, decide_eq_true_eq, Bool.true_and, Bool.and_true, Bool.false_and, Bool.and_false, Bool.not_true, Bool.not_false, Bool.or_true, Bool.true_or, Bool.or_false, Bool.false_or, or_true, true_or, or_false, false_or, and_true, true_and, Bool.false_eq_true, reduceCtorEq, not_true_eq_false, not_false_eq_true, Nat.reduceAdd, Nat.reduceLT, Nat.zero_add, eq_self, decide_true, decide_false, ↓reduceIte, Option.isSome_some, Option.isSome_none, ne_eq, Int.reduceNeg, Int.reducePow, Int.reduceLT, Int.reduceLE, Int.reduceEq, Int.reduceSub, Int.reduceAdd, Int.reduceMul, Nat.reducePow, Nat.reduceLeDiff]
  exact ⟨_, rfl⟩
def mx (n : Nat) (a c : Int) : Int := match F (n + 1) 1 [.int a, .int c] with
  | .ok (.int m) _ => m
  | _ => 0
theorem mx_eq (n : Nat) (a c : Int) : F (n + 1) 1 [.int a, .int c] = .ok (.int (mx n a c)) [none, none] := by
  obtain ⟨m, h⟩ := mixed n a c
  rw [h]
  unfold mx
  rw [h]
/-- a call of two plain values whose end is known -/
theorem call_mixed (n : Nat) (a c : Int) (ρ : Ev) : callR (F (n + 1)) 1 [.d (.int a), .d (.int c)] ρ = .ok (.int (mx n a c), false) ρ := by
  rw [callR_ok (as := [.d (.int a), .d (.int c)]) (ds := [.int a, .int c]) rfl List.nodup_nil (mx_eq n a c) rfl]
  rfl
theorem cl3 (n : Nat) (ds : List D) : F (n + 1) 3 ds = d__law_take.run (F n) ds := rfl
/-- the law's store of numbers -/
inductive St : D → Prop
  | mk (o : Bool) (cs : List Int) (a b c e : Int) : 0 ≤ a → St (.lst true [.lst o (cs.map .int), .int a, .int b, .int c, .int e])
theorem fmod_ok (x : Int) {m : Int} (h : ¬ m < 2) : 0 ≤ x.fmod m ∧ (2 ≤ m → x.fmod m < m) ∧ (False → x.fmod m = 0) :=
  ⟨Int.fmod_nonneg_of_pos x (by omega), fun _ => Int.fmod_lt_of_pos x (by omega), fun h' => h'.elim⟩
theorem cells_isC : ∀ cs : List Int, isCs (cs.map D.int) = true
  | [] => rfl
  | _ :: cs => cells_isC cs
theorem take (n : Nat) (s : D) (h : St s) (m : Int) (hm : m < 1073741824) : ∃ t s', F (n + 2) 3 [s, .int m] = .ok (.int t) [some s', none] ∧ St s' ∧ 0 ≤ t ∧ (2 ≤ m → t < m) ∧ (m < 2 → t = 0) := by
  obtain ⟨o, cs, a, b, c, e, ha⟩ := h
  rw [cl3, Df.run_eq _ _ _ rfl]
  show ∃ t s', (Ss.go (F (n + 1)) [0] b__law_take [some (.lst true [.lst o (cs.map .int), .int a, .int b, .int c, .int e]), some (.int m), none, none]).toCR d__law_take = .ok (.int t) [some s', none] ∧ St s' ∧ 0 ≤ t ∧ (2 ≤ m → t < m) ∧ (m < 2 → t = 0)
  by_cases h1 : m < 2
  · simp only [b__law_take, h1, Hm.s_set, Hm.s_for, Hm.as_c, Hm.as_g, Hm.as_v, Hm.as_mv, Hm.as_u, Hm.as_b, Hm.as_ix, Hm.as_sl, Hm.as_ch, Hm.as_tb, Hm.as_ife, Hm.as_tup, Hm.as_lst, Hm.as_call, Hm.as_idx, Hm.as_lc, Hm.as_dE, Hm.as_sv, Hm.as_lr, Hm.go_ch, List.contains_nil, List.contains_cons, Nat.reduceBEq, List.any_cons, List.any_nil, beq_self_eq_true, Hm.go_c, Hm.go_g, Hm.go_v, Hm.go_mv, Hm.go_sv, Hm.go_u, Hm.go_b, Hm.go_ix, Hm.go_sl, Hm.go_tb, Hm.go_ife, Hm.go_tup, Hm.go_lst, Hm.go_call, Hm.go_idx, Hm.go_lc, Hm.go_dE, Hm.go_lr, Hm.tst_an, Hm.tst_or, Hm.tst_nt, Hm.tst_one, Hm.tst_e, Hm.val_an, Hm.val_or, Hm.val_nt, Hm.val_one, Hm.val_e, Hm.eo_no, Hm.eo_yes, Hm.to_no, Hm.to_yes, Hm.es_nil, Hm.es_cons, Hm.as_nil, Hm.as_io, Hm.as_ln, Hm.it_seq, Hm.it_scr, Hm.it_rng, Hm.it_enum, Hm.s_expr, Hm.s_ret, Hm.s_iff, Hm.s_app, Hm.s_put, Hm.s_pass, Hm.s_brk, Hm.s_cnt, Hm.ss_nil, Hm.ss_cons, Hm.kU_1, Hm.kU_2, Hm.kU_3, Hm.kB2_1, Hm.kB2_2, Hm.kB2_3, Hm.kB1_1, Hm.kB1_2, Hm.kB1_3, Hm.kI2_1, Hm.kI2_2, Hm.kI2_3, Hm.kI1_1, Hm.kI1_2, Hm.kI1_3, Hm.kS3_1, Hm.kS3_2, Hm.kS3_3, Hm.kS2_1, Hm.kS2_2, Hm.kS2_3, Hm.kS1_1, Hm.kS1_2, Hm.kS1_3, Hm.kC3_1, Hm.kC3_2, Hm.kC3_3, Hm.kC2'_1, Hm.kC2'_2, Hm.kC2_1, Hm.kC2_2, Hm.kC2_3, Hm.kC1_1, Hm.kC1_2, Hm.kC1_3, Hm.kTb_1, Hm.kTb_2, Hm.kTb_3, Hm.kIf_1, Hm.kIf_2, Hm.kIf_3, Hm.kIf_4, Hm.kTup_1, Hm.kTup_2, Hm.kTup_3, Hm.kLst_1, Hm.kLst_2, Hm.kLst_3, Hm.kCall_1, Hm.kCall_2, Hm.kCall_3, Hm.kX2_1, Hm.kX2_2, Hm.kX2_3, Hm.kX1_1, Hm.kX1_2, Hm.kX1_3, Hm.kL2_1, Hm.kL1_1, Hm.kL1_2, Hm.kL1_3, Hm.kLr_1, Hm.kLr_2, Hm.kLr_3, Hm.kOwn_1, Hm.kOwn_2, Hm.kOwn_3, Hm.kAn_1, Hm.kAn_2, Hm.kAn_3, Hm.kAn_4, Hm.kOr_1, Hm.kOr_2, Hm.kOr_3, Hm.kOr_4, Hm.kNt_1, Hm.kNt_2, Hm.kNt_3, Hm.kTr'_1, Hm.kTr'_2, Hm.kTr_1, Hm.kTr_2, Hm.kTr_3, Hm.kAnV_1, Hm.kAnV_2, Hm.kAnV_3, Hm.kAnV_4, Hm.kOrV_1, Hm.kOrV_2, Hm.kOrV_3, Hm.kOrV_4, Hm.kVl_1, Hm.kVl_2, Hm.kVl_3, Hm.kEo_1, Hm.kEo_2, Hm.kEo_3, Hm.kEs2_1, Hm.kEs2_2, Hm.kEs2_3, Hm.kEs1_1, Hm.kEs1_2, Hm.kEs1_3, Hm.kAs2_1, Hm.kAs2_2, Hm.kAs2_3, Hm.kAs1_1, Hm.kAs1_2, Hm.kAs1_3, Hm.kW_1, Hm.kW_2, Hm.kSq_1, Hm.kSq_2, Hm.kSq_3, Hm.kScr_1, Hm.kScr_2, Hm.kScr_3, Hm.kRg_1, Hm.kRg_2, Hm.kRg_3, Hm.kEn_1, Hm.kEn_2, Hm.kEn_3, Hm.kSet_1, Hm.kSet_2, Hm.kSet_3, Hm.kExp_1, Hm.kExp_2, Hm.kExp_3, Hm.kRet_1, Hm.kRet_2, Hm.kRet_3, Hm.kIff_1, Hm.kIff_2, Hm.kIff_3, Hm.kIff_4, Hm.kAp2_1, Hm.kAp1_1, Hm.kAp1_2, Hm.kAp1_3, Hm.kAp_1, Hm.kPl_1, Hm.kPl_2, Hm.kPd_1, Hm.kPd_2, Hm.kPk_1, Hm.kPk_2, Hm.kP3_1, Hm.kP3_2, Hm.kP2_1, Hm.kP2_2, Hm.kP2_3, Hm.kP1_1, Hm.kP1_2, Hm.kP1_3, Hm.kFor_1, Hm.kFor_2, Hm.kFor_3, Hm.kSeq_1, Hm.kSeq_2, Hm.kSeq_3, Hm.kSeq_4, Hm.kSeq_5, Hm.kSeq_6, Hm.kOp_s, Hm.kOp_n, Hm.kV_1, Hm.kMv_1, Hm.kSv_1, Hm.cr_1, Hm.cr_2, Hm.add_i, Hm.sub_i, Hm.mul_r, Hm.mul_l, Hm.mod_i, Hm.fdiv_i, Hm.lt_i, Hm.le_i, Hm.gt_i, Hm.ge_i, Hm.eq_i, Hm.eq_b, Hm.eq_s, Hm.ne_i, Hm.ne_b, Hm.min_i, Hm.max_i, Hm.isN_, Hm.notN_, Hm.neg_i, Hm.abs_i, Hm.int_i, Hm.int_b, Hm.len_l, Hm.len_t, Hm.ix_l, Hm.ix_t, Hm.tru_b, Hm.tru_i, Hm.own_i, Hm.ownV_v, Hm.lst_, Hm.tup_, Hm.sz_, Hm.join_s, Hm.join_n, Hm.at_0, Hm.at_1, Hm.at_2, Hm.at_3, Hm.at_4, Hm.at_5, Hm.at_6, Hm.at_7, Hm.at_8, Hm.at_9, Hm.at_10, Hm.at_11, Hm.at_12, Hm.at_13, Hm.at_14, Hm.at_15, Hm.at_16, Hm.at_17, Hm.at_18, Hm.at_19, Hm.at_20, Hm.at_21, Hm.at_22, Hm.at_23, Hm.at_24, Hm.at_25, Hm.ix5_0, Hm.ix5_1, Hm.ix5_2, Hm.ix5_3, Hm.ix5_4, Hm.pow_18, Hm.pow_39, Hm.pow_40, held, D.isC, isCs, E.pu, D.isNon, Cn.d, List.length_cons, List.length_nil, List.getElem?_cons_zero, List.getElem?_cons_succ, List.getElem?_nil, List.set_cons_zero, List.set_cons_succ, List.map_cons, List.map_nil, Option.map_some, Option.map_none, decide_eq_true_eq, Bool.true_and, Bool.and_true, Bool.false_and, Bool.and_false, Bool.not_true, Bool.not_false, Bool.or_true, Bool.true_or, Bool.or_false, Bool.false_or, or_true, true_or, or_false, false_or, and_true, true_and, Bool.false_eq_true, reduceCtorEq, not_true_eq_false, not_false_eq_true, Nat.reduceAdd, Nat.reduceLT, Nat.zero_add, eq_self, decide_true, decide_false, ↓reduceIte, Option.isSome_some, Option.isSome_none, ne_eq, Int.reduceNeg, Int.reducePow, Int.reduceLT, Int.reduceLE, Int.reduceEq, Int.reduceSub, Int.reduceAdd, Int.reduceMul, Nat.reducePow, Nat.reduceLeDiff]
    exact ⟨0, _, rfl, .mk o cs a b c e ha, Int.le_refl _, fun _ => by omega, fun _ => rfl⟩
  · have hm0 : ¬ m = 0 := by omega
    have hm1 : (-1073741824 < m) = True := eq_true (by omega)
    have hm2 : (m < 1073741824) = True := eq_true hm
    by_cases h2 : b < 2 ∧ a < ((cs.map D.int).length : Int)
    · obtain ⟨h2, h3⟩ := h2
      obtain ⟨x, hx⟩ : ∃ x, L2.atI (cs.map D.int) a = some (.int x) := by
        have h3' : a.toNat < cs.length := by
          rw [List.length_map] at h3
          omega
        refine ⟨cs[a.toNat], ?_⟩
        have q := atI_nat (xs := cs.map D.int) (j := a.toNat) (v := .int cs[a.toNat]) (by rw [List.getElem?_map, List.getElem?_eq_getElem h3']; rfl)
        rwa [Int.toNat_of_nonneg ha] at q
      obtain ⟨y, hy⟩ : ∃ y, (if x < 0 then -x else x) = y := ⟨_, rfl⟩
      by_cases h4 : y < 1000000000000000000
      · simp only [b__law_take, h1, hm0, h2, h3, hx, hy, h4, call_mixed, Hm.s_set, Hm.s_for, Hm.as_c, Hm.as_g, Hm.as_v, Hm.as_mv, Hm.as_u, Hm.as_b, Hm.as_ix, Hm.as_sl, Hm.as_ch, Hm.as_tb, Hm.as_ife, Hm.as_tup, Hm.as_lst, Hm.as_call, Hm.as_idx, Hm.as_lc, Hm.as_dE, Hm.as_sv, Hm.as_lr, Hm.go_ch, List.contains_nil, List.contains_cons, Nat.reduceBEq, List.any_cons, List.any_nil, beq_self_eq_true, Hm.go_c, Hm.go_g, Hm.go_v, Hm.go_mv, Hm.go_sv, Hm.go_u, Hm.go_b, Hm.go_ix, Hm.go_sl, Hm.go_tb, Hm.go_ife, Hm.go_tup, Hm.go_lst, Hm.go_call, Hm.go_idx, Hm.go_lc, Hm.go_dE, Hm.go_lr, Hm.tst_an, Hm.tst_or, Hm.tst_nt, Hm.tst_one, Hm.tst_e, Hm.val_an, Hm.val_or, Hm.val_nt, Hm.val_one, Hm.val_e, Hm.eo_no, Hm.eo_yes, Hm.to_no, Hm.to_yes, Hm.es_nil, Hm.es_cons, Hm.as_nil, Hm.as_io, Hm.as_ln, Hm.it_seq, Hm.it_scr, Hm.it_rng, Hm.it_enum, Hm.s_expr, Hm.s_ret, Hm.s_iff, Hm.s_app, Hm.s_put, Hm.s_pass, Hm.s_brk, Hm.s_cnt, Hm.ss_nil, Hm.ss_cons, Hm.kU_1, Hm.kU_2, Hm.kU_3, Hm.kB2_1, Hm.kB2_2, Hm.kB2_3, Hm.kB1_1, Hm.kB1_2, Hm.kB1_3, Hm.kI2_1, Hm.kI2_2, Hm.kI2_3, Hm.kI1_1, Hm.kI1_2, Hm.kI1_3, Hm.kS3_1, Hm.kS3_2, Hm.kS3_3, Hm.kS2_1, Hm.kS2_2, Hm.kS2_3, Hm.kS1_1, Hm.kS1_2, Hm.kS1_3, Hm.kC3_1, Hm.kC3_2, Hm.kC3_3, Hm.kC2'_1, Hm.kC2'_2, Hm.kC2_1, Hm.kC2_2, Hm.kC2_3, Hm.kC1_1, Hm.kC1_2, Hm.kC1_3, Hm.kTb_1, Hm.kTb_2, Hm.kTb_3, Hm.kIf_1, Hm.kIf_2, Hm.kIf_3, Hm.kIf_4, Hm.kTup_1, Hm.kTup_2, Hm.kTup_3, Hm.kLst_1, Hm.kLst_2, Hm.kLst_3, Hm.kCall_1, Hm.kCall_2, Hm.kCall_3, Hm.kX2_1, Hm.kX2_2, Hm.kX2_3, Hm.kX1_1, Hm.kX1_2, Hm.kX1_3, Hm.kL2_1, Hm.kL1_1, Hm.kL1_2, Hm.kL1_3, Hm.kLr_1, Hm.kLr_2, Hm.kLr_3, Hm.kOwn_1, Hm.kOwn_2, Hm.kOwn_3, Hm.kAn_1, Hm.kAn_2, Hm.kAn_3, Hm.kAn_4, Hm.kOr_1, Hm.kOr_2, Hm.kOr_3, Hm.kOr_4, Hm.kNt_1, Hm.kNt_2, Hm.kNt_3, Hm.kTr'_1, Hm.kTr'_2, Hm.kTr_1, Hm.kTr_2, Hm.kTr_3, Hm.kAnV_1, Hm.kAnV_2, Hm.kAnV_3, Hm.kAnV_4, Hm.kOrV_1, Hm.kOrV_2, Hm.kOrV_3, Hm.kOrV_4, Hm.kVl_1, Hm.kVl_2, Hm.kVl_3, Hm.kEo_1, Hm.kEo_2, Hm.kEo_3, Hm.kEs2_1, Hm.kEs2_2, Hm.kEs2_3, Hm.kEs1_1, Hm.kEs1_2, Hm.kEs1_3, Hm.kAs2_1, Hm.kAs2_2, Hm.kAs2_3, Hm.kAs1_1, Hm.kAs1_2, Hm.kAs1_3, Hm.kW_1, Hm.kW_2, Hm.kSq_1, Hm.kSq_2, Hm.kSq_3, Hm.kScr_1, Hm.kScr_2, Hm.kScr_3, Hm.kRg_1, Hm.kRg_2, Hm.kRg_3, Hm.kEn_1, Hm.kEn_2, Hm.kEn_3, Hm.kSet_1, Hm.kSet_2, Hm.kSet_3, Hm.kExp_1, Hm.kExp_2, Hm.kExp_3, Hm.kRet_1, Hm.kRet_2, Hm.kRet_3, Hm.kIff_1, Hm.kIff_2, Hm.kIff_3, Hm.kIff_4, Hm.kAp2_1, Hm.kAp1_1, Hm.kAp1_2, Hm.kAp1_3, Hm.kAp_1, Hm.kPl_1, Hm.kPl_2, Hm.kPd_1, Hm.kPd_2, Hm.kPk_1, Hm.kPk_2, Hm.kP3_1, Hm.kP3_2, Hm.kP2_1, Hm.kP2_2, Hm.kP2_3, Hm.kP1_1, Hm.kP1_2, Hm.kP1_3, Hm.kFor_1, Hm.kFor_2, Hm.kFor_3, Hm.kSeq_1, Hm.kSeq_2, Hm.kSeq_3, Hm.kSeq_4, Hm.kSeq_5, Hm.kSeq_6, Hm.kOp_s, Hm.kOp_n, Hm.kV_1, Hm.kMv_1, Hm.kSv_1, Hm.cr_1, Hm.cr_2, Hm.add_i, Hm.sub_i, Hm.mul_r, Hm.mul_l, Hm.mod_i, Hm.fdiv_i, Hm.lt_i, Hm.le_i, Hm.gt_i, Hm.ge_i, Hm.eq_i, Hm.eq_b, Hm.eq_s, Hm.ne_i, Hm.ne_b, Hm.min_i, Hm.max_i, Hm.isN_, Hm.notN_, Hm.neg_i, Hm.abs_i, Hm.int_i, Hm.int_b, Hm.len_l, Hm.len_t, Hm.ix_l, Hm.ix_t, Hm.tru_b, Hm.tru_i, Hm.own_i, Hm.ownV_v, Hm.lst_, Hm.tup_, Hm.sz_, Hm.join_s, Hm.join_n, Hm.at_0, Hm.at_1, Hm.at_2, Hm.at_3, Hm.at_4, Hm.at_5, Hm.at_6, Hm.at_7, Hm.at_8, Hm.at_9, Hm.at_10, Hm.at_11, Hm.at_12, Hm.at_13, Hm.at_14, Hm.at_15, Hm.at_16, Hm.at_17, Hm.at_18, Hm.at_19, Hm.at_20, Hm.at_21, Hm.at_22, Hm.at_23, Hm.at_24, Hm.at_25, Hm.ix5_0, Hm.ix5_1, Hm.ix5_2, Hm.ix5_3, Hm.ix5_4, Hm.pow_18, Hm.pow_39, Hm.pow_40, held, D.isC, isCs, E.pu, D.isNon, Cn.d, List.length_cons, List.length_nil, List.getElem?_cons_zero, List.getElem?_cons_succ, List.getElem?_nil, List.set_cons_zero, List.set_cons_succ, List.map_cons, List.map_nil, Option.map_some, Option.map_none, decide_eq_true_eq, Bool.true_and, Bool.and_true, Bool.false_and, Bool.and_false, Bool.not_true, Bool.not_false, Bool.or_true, Bool.true_or, Bool.or_false, Bool.false_or, or_true, true_or, or_false, false_or, and_true, true_and, Bool.false_eq_true, reduceCtorEq, not_true_eq_false, not_false_eq_true, Nat.reduceAdd, Nat.reduceLT, Nat.zero_add, eq_self, decide_true, decide_false, ↓reduceIte, Option.isSome_some, Option.isSome_none, ne_eq, Int.reduceNeg, Int.reducePow, Int.reduceLT, Int.reduceLE, Int.reduceEq, Int.reduceSub, Int.reduceAdd, Int.reduceMul, Nat.reducePow, Nat.reduceLeDiff]
        exact ⟨_, _, rfl, .mk _ _ _ _ _ _ (by omega), fmod_ok _ h1⟩
      · have h5 : (1 < y) = True := eq_true (by omega)
        simp only [b__law_take, h1, hm0, hm1, hm2, h2, h3, hx, hy, h4, h5, call_mixed, Hm.s_set, Hm.s_for, Hm.as_c, Hm.as_g, Hm.as_v, Hm.as_mv, Hm.as_u, Hm.as_b, Hm.as_ix, Hm.as_sl, Hm.as_ch, Hm.as_tb, Hm.as_ife, Hm.as_tup, Hm.as_lst, Hm.as_call, Hm.as_idx, Hm.as_lc, Hm.as_dE, Hm.as_sv, Hm.as_lr, Hm.go_ch, List.contains_nil, List.contains_cons, Nat.reduceBEq, List.any_cons, List.any_nil, beq_self_eq_true, Hm.go_c, Hm.go_g, Hm.go_v, Hm.go_mv, Hm.go_sv, Hm.go_u, Hm.go_b, Hm.go_ix, Hm.go_sl, Hm.go_tb, Hm.go_ife, Hm.go_tup, Hm.go_lst, Hm.go_call, Hm.go_idx, Hm.go_lc, Hm.go_dE, Hm.go_lr, Hm.tst_an, Hm.tst_or, Hm.tst_nt, Hm.tst_one, Hm.tst_e, Hm.val_an, Hm.val_or, Hm.val_nt, Hm.val_one, Hm.val_e, Hm.eo_no, Hm.eo_yes, Hm.to_no, Hm.to_yes, Hm.es_nil, Hm.es_cons, Hm.as_nil, Hm.as_io, Hm.as_ln, Hm.it_seq, Hm.it_scr, Hm.it_rng, Hm.it_enum, Hm.s_expr, Hm.s_ret, Hm.s_iff, Hm.s_app, Hm.s_put, Hm.s_pass, Hm.s_brk, Hm.s_cnt, Hm.ss_nil, Hm.ss_cons, Hm.kU_1, Hm.kU_2, Hm.kU_3, Hm.kB2_1, Hm.kB2_2, Hm.kB2_3, Hm.kB1_1, Hm.kB1_2, Hm.kB1_3, Hm.kI2_1, Hm.kI2_2, Hm.kI2_3, Hm.kI1_1, Hm.kI1_2, Hm.kI1_3, Hm.kS3_1, Hm.kS3_2, Hm.kS3_3, Hm.kS2_1, Hm.kS2_2, Hm.kS2_3, Hm.kS1_1, Hm.kS1_2, Hm.kS1_3, Hm.kC3_1, Hm.kC3_2, Hm.kC3_3, Hm.kC2'_1, Hm.kC2'_2, Hm.kC2_1, Hm.kC2_2, Hm.kC2_3, Hm.kC1_1, Hm.kC1_2, Hm.kC1_3, Hm.kTb_1, Hm.kTb_2, Hm.kTb_3, Hm.kIf_1, Hm.kIf_2, Hm.kIf_3, Hm.kIf_4, Hm.kTup_1, Hm.kTup_2, Hm.kTup_3, Hm.kLst_1, Hm.kLst_2, Hm.kLst_3, Hm.kCall_1, Hm.kCall_2, Hm.kCall_3, Hm.kX2_1, Hm.kX2_2, Hm.kX2_3, Hm.kX1_1, Hm.kX1_2, Hm.kX1_3, Hm.kL2_1, Hm.kL1_1, Hm.kL1_2, Hm.kL1_3, Hm.kLr_1, Hm.kLr_2, Hm.kLr_3, Hm.kOwn_1, Hm.kOwn_2, Hm.kOwn_3, Hm.kAn_1, Hm.kAn_2, Hm.kAn_3, Hm.kAn_4, Hm.kOr_1, Hm.kOr_2, Hm.kOr_3, Hm.kOr_4, Hm.kNt_1, Hm.kNt_2, Hm.kNt_3, Hm.kTr'_1, Hm.kTr'_2, Hm.kTr_1, Hm.kTr_2, Hm.kTr_3, Hm.kAnV_1, Hm.kAnV_2, Hm.kAnV_3, Hm.kAnV_4, Hm.kOrV_1, Hm.kOrV_2, Hm.kOrV_3, Hm.kOrV_4, Hm.kVl_1, Hm.kVl_2, Hm.kVl_3, Hm.kEo_1, Hm.kEo_2, Hm.kEo_3, Hm.kEs2_1, Hm.kEs2_2, Hm.kEs2_3, Hm.kEs1_1, Hm.kEs1_2, Hm.kEs1_3, Hm.kAs2_1, Hm.kAs2_2, Hm.kAs2_3, Hm.kAs1_1, Hm.kAs1_2, Hm.kAs1_3, Hm.kW_1, Hm.kW_2, Hm.kSq_1, Hm.kSq_2, Hm.kSq_3, Hm.kScr_1, Hm.kScr_2, Hm.kScr_3, Hm.kRg_1, Hm.kRg_2, Hm.kRg_3, Hm.kEn_1, Hm.kEn_2, Hm.kEn_3, Hm.kSet_1, Hm.kSet_2, Hm.kSet_3, Hm.kExp_1, Hm.kExp_2, Hm.kExp_3, Hm.kRet_1, Hm.kRet_2, Hm.kRet_3, Hm.kIff_1, Hm.kIff_2, Hm.kIff_3, Hm.kIff_4, Hm.kAp2_1, Hm.kAp1_1, Hm.kAp1_2, Hm.kAp1_3, Hm.kAp_1, Hm.kPl_1, Hm.kPl_2, Hm.kPd_1, Hm.kPd_2, Hm.kPk_1, Hm.kPk_2, Hm.kP3_1, Hm.kP3_2, Hm.kP2_1, Hm.kP2_2, Hm.kP2_3, Hm.kP1_1, Hm.kP1_2, Hm.kP1_3, Hm.kFor_1, Hm.kFor_2, Hm.kFor_3, Hm.kSeq_1, Hm.kSeq_2, Hm.kSeq_3, Hm.kSeq_4, Hm.kSeq_5, Hm.kSeq_6, Hm.kOp_s, Hm.kOp_n, Hm.kV_1, Hm.kMv_1, Hm.kSv_1, Hm.cr_1, Hm.cr_2, Hm.add_i, Hm.sub_i, Hm.mul_r, Hm.mul_l, Hm.mod_i, Hm.fdiv_i, Hm.lt_i, Hm.le_i, Hm.gt_i, Hm.ge_i, Hm.eq_i, Hm.eq_b, Hm.eq_s, Hm.ne_i, Hm.ne_b, Hm.min_i, Hm.max_i, Hm.isN_, Hm.notN_, Hm.neg_i, Hm.abs_i, Hm.int_i, Hm.int_b, Hm.len_l, Hm.len_t, Hm.ix_l, Hm.ix_t, Hm.tru_b, Hm.tru_i, Hm.own_i, Hm.ownV_v, Hm.lst_, Hm.tup_, Hm.sz_, Hm.join_s, Hm.join_n, Hm.at_0, Hm.at_1, Hm.at_2, Hm.at_3, Hm.at_4, Hm.at_5, Hm.at_6, Hm.at_7, Hm.at_8, Hm.at_9, Hm.at_10, Hm.at_11, Hm.at_12, Hm.at_13, Hm.at_14, Hm.at_15, Hm.at_16, Hm.at_17, Hm.at_18, Hm.at_19, Hm.at_20, Hm.at_21, Hm.at_22, Hm.at_23, Hm.at_24, Hm.at_25, Hm.ix5_0, Hm.ix5_1, Hm.ix5_2, Hm.ix5_3, Hm.ix5_4, Hm.pow_18, Hm.pow_39, Hm.pow_40, held, D.isC, isCs, E.pu, D.isNon, Cn.d, List.length_cons, List.length_nil, List.getElem?_cons_zero, List.getElem?_cons_succ, List.getElem?_nil, List.set_cons_zero, List.set_cons_succ, List.map_cons, List.map_nil, Option.map_some, Option.map_none, decide_eq_true_eq, Bool.true_and, Bool.and_true, Bool.false_and, Bool.and_false, Bool.not_true, Bool.not_false, Bool.or_true, Bool.true_or, Bool.or_false, Bool.false_or, or_true, true_or, or_false, false_or, and_true, true_and, Bool.false_eq_true, reduceCtorEq, not_true_eq_false, not_false_eq_true, Nat.reduceAdd, Nat.reduceLT, Nat.zero_add, eq_self, decide_true, decide_false, ↓reduceIte, Option.isSome_some, Option.isSome_none, ne_eq, Int.reduceNeg, Int.reducePow, Int.reduceLT, Int.reduceLE, Int.reduceEq, Int.reduceSub, Int.reduceAdd, Int.reduceMul, Nat.reducePow, Nat.reduceLeDiff]
        exact ⟨_, _, rfl, .mk _ _ _ _ _ _ (by omega), fmod_ok _ h1⟩
    · by_cases h6 : 1 < b
      · have h7 : (b < 2) = False := eq_false (by omega)
        simp only [b__law_take, h1, hm0, hm1, hm2, h6, h7, call_mixed, Hm.s_set, Hm.s_for, Hm.as_c, Hm.as_g, Hm.as_v, Hm.as_mv, Hm.as_u, Hm.as_b, Hm.as_ix, Hm.as_sl, Hm.as_ch, Hm.as_tb, Hm.as_ife, Hm.as_tup, Hm.as_lst, Hm.as_call, Hm.as_idx, Hm.as_lc, Hm.as_dE, Hm.as_sv, Hm.as_lr, Hm.go_ch, List.contains_nil, List.contains_cons, Nat.reduceBEq, List.any_cons, List.any_nil, beq_self_eq_true, Hm.go_c, Hm.go_g, Hm.go_v, Hm.go_mv, Hm.go_sv, Hm.go_u, Hm.go_b, Hm.go_ix, Hm.go_sl, Hm.go_tb, Hm.go_ife, Hm.go_tup, Hm.go_lst, Hm.go_call, Hm.go_idx, Hm.go_lc, Hm.go_dE, Hm.go_lr, Hm.tst_an, Hm.tst_or, Hm.tst_nt, Hm.tst_one, Hm.tst_e, Hm.val_an, Hm.val_or, Hm.val_nt, Hm.val_one, Hm.val_e, Hm.eo_no, Hm.eo_yes, Hm.to_no, Hm.to_yes, Hm.es_nil, Hm.es_cons, Hm.as_nil, Hm.as_io, Hm.as_ln, Hm.it_seq, Hm.it_scr, Hm.it_rng, Hm.it_enum, Hm.s_expr, Hm.s_ret, Hm.s_iff, Hm.s_app, Hm.s_put, Hm.s_pass, Hm.s_brk, Hm.s_cnt, Hm.ss_nil, Hm.ss_cons, Hm.kU_1, Hm.kU_2, Hm.kU_3, Hm.kB2_1, Hm.kB2_2, Hm.kB2_3, Hm.kB1_1, Hm.kB1_2, Hm.kB1_3, Hm.kI2_1, Hm.kI2_2, Hm.kI2_3, Hm.kI1_1, Hm.kI1_2, Hm.kI1_3, Hm.kS3_1, Hm.kS3_2, Hm.kS3_3, Hm.kS2_1, Hm.kS2_2, Hm.kS2_3, Hm.kS1_1, Hm.kS1_2, Hm.kS1_3, Hm.kC3_1, Hm.kC3_2, Hm.kC3_3, Hm.kC2'_1, Hm.kC2'_2, Hm.kC2_1, Hm.kC2_2, Hm.kC2_3, Hm.kC1_1, Hm.kC1_2, Hm.kC1_3, Hm.kTb_1, Hm.kTb_2, Hm.kTb_3, Hm.kIf_1, Hm.kIf_2, Hm.kIf_3, Hm.kIf_4, Hm.kTup_1, Hm.kTup_2, Hm.kTup_3, Hm.kLst_1, Hm.kLst_2, Hm.kLst_3, Hm.kCall_1, Hm.kCall_2, Hm.kCall_3, Hm.kX2_1, Hm.kX2_2, Hm.kX2_3, Hm.kX1_1, Hm.kX1_2, Hm.kX1_3, Hm.kL2_1, Hm.kL1_1, Hm.kL1_2, Hm.kL1_3, Hm.kLr_1, Hm.kLr_2, Hm.kLr_3, Hm.kOwn_1, Hm.kOwn_2, Hm.kOwn_3, Hm.kAn_1, Hm.kAn_2, Hm.kAn_3, Hm.kAn_4, Hm.kOr_1, Hm.kOr_2, Hm.kOr_3, Hm.kOr_4, Hm.kNt_1, Hm.kNt_2, Hm.kNt_3, Hm.kTr'_1, Hm.kTr'_2, Hm.kTr_1, Hm.kTr_2, Hm.kTr_3, Hm.kAnV_1, Hm.kAnV_2, Hm.kAnV_3, Hm.kAnV_4, Hm.kOrV_1, Hm.kOrV_2, Hm.kOrV_3, Hm.kOrV_4, Hm.kVl_1, Hm.kVl_2, Hm.kVl_3, Hm.kEo_1, Hm.kEo_2, Hm.kEo_3, Hm.kEs2_1, Hm.kEs2_2, Hm.kEs2_3, Hm.kEs1_1, Hm.kEs1_2, Hm.kEs1_3, Hm.kAs2_1, Hm.kAs2_2, Hm.kAs2_3, Hm.kAs1_1, Hm.kAs1_2, Hm.kAs1_3, Hm.kW_1, Hm.kW_2, Hm.kSq_1, Hm.kSq_2, Hm.kSq_3, Hm.kScr_1, Hm.kScr_2, Hm.kScr_3, Hm.kRg_1, Hm.kRg_2, Hm.kRg_3, Hm.kEn_1, Hm.kEn_2, Hm.kEn_3, Hm.kSet_1, Hm.kSet_2, Hm.kSet_3, Hm.kExp_1, Hm.kExp_2, Hm.kExp_3, Hm.kRet_1, Hm.kRet_2, Hm.kRet_3, Hm.kIff_1, Hm.kIff_2, Hm.kIff_3, Hm.kIff_4, Hm.kAp2_1, Hm.kAp1_1, Hm.kAp1_2, Hm.kAp1_3, Hm.kAp_1, Hm.kPl_1, Hm.kPl_2, Hm.kPd_1, Hm.kPd_2, Hm.kPk_1, Hm.kPk_2, Hm.kP3_1, Hm.kP3_2, Hm.kP2_1, Hm.kP2_2, Hm.kP2_3, Hm.kP1_1, Hm.kP1_2, Hm.kP1_3, Hm.kFor_1, Hm.kFor_2, Hm.kFor_3, Hm.kSeq_1, Hm.kSeq_2, Hm.kSeq_3, Hm.kSeq_4, Hm.kSeq_5, Hm.kSeq_6, Hm.kOp_s, Hm.kOp_n, Hm.kV_1, Hm.kMv_1, Hm.kSv_1, Hm.cr_1, Hm.cr_2, Hm.add_i, Hm.sub_i, Hm.mul_r, Hm.mul_l, Hm.mod_i, Hm.fdiv_i, Hm.lt_i, Hm.le_i, Hm.gt_i, Hm.ge_i, Hm.eq_i, Hm.eq_b, Hm.eq_s, Hm.ne_i, Hm.ne_b, Hm.min_i, Hm.max_i, Hm.isN_, Hm.notN_, Hm.neg_i, Hm.abs_i, Hm.int_i, Hm.int_b, Hm.len_l, Hm.len_t, Hm.ix_l, Hm.ix_t, Hm.tru_b, Hm.tru_i, Hm.own_i, Hm.ownV_v, Hm.lst_, Hm.tup_, Hm.sz_, Hm.join_s, Hm.join_n, Hm.at_0, Hm.at_1, Hm.at_2, Hm.at_3, Hm.at_4, Hm.at_5, Hm.at_6, Hm.at_7, Hm.at_8, Hm.at_9, Hm.at_10, Hm.at_11, Hm.at_12, Hm.at_13, Hm.at_14, Hm.at_15, Hm.at_16, Hm.at_17, Hm.at_18, Hm.at_19, Hm.at_20, Hm.at_21, Hm.at_22, Hm.at_23, Hm.at_24, Hm.at_25, Hm.ix5_0, Hm.ix5_1, Hm.ix5_2, Hm.ix5_3, Hm.ix5_4, Hm.pow_18, Hm.pow_39, Hm.pow_40, held, D.isC, isCs, E.pu, D.isNon, Cn.d, List.length_cons, List.length_nil, List.getElem?_cons_zero, List.getElem?_cons_succ, List.getElem?_nil, List.set_cons_zero, List.set_cons_succ, List.map_cons, List.map_nil, Option.map_some, Option.map_none, decide_eq_true_eq, Bool.true_and, Bool.and_true, Bool.false_and, Bool.and_false, Bool.not_true, Bool.not_false, Bool.or_true, Bool.true_or, Bool.or_false, Bool.false_or, or_true, true_or, or_false, false_or, and_true, true_and, Bool.false_eq_true, reduceCtorEq, not_true_eq_false, not_false_eq_true, Nat.reduceAdd, Nat.reduceLT, Nat.zero_add, eq_self, decide_true, decide_false, ↓reduceIte, Option.isSome_some, Option.isSome_none, ne_eq, Int.reduceNeg, Int.reducePow, Int.reduceLT, Int.reduceLE, Int.reduceEq, Int.reduceSub, Int.reduceAdd, Int.reduceMul, Nat.reducePow, Nat.reduceLeDiff]
        exact ⟨_, _, rfl, .mk _ _ _ _ _ _ ha, fmod_ok _ h1⟩
      · have h7 : (b < 2) = True := eq_true (by omega)
        have h8 : (a < ((cs.map D.int).length : Int)) = False := eq_false fun z => h2 ⟨by omega, z⟩
        simp only [b__law_take, h1, hm0, hm1, hm2, h6, h7, h8, call_mixed, Hm.s_set, Hm.s_for, Hm.as_c, Hm.as_g, Hm.as_v, Hm.as_mv, Hm.as_u, Hm.as_b, Hm.as_ix, Hm.as_sl, Hm.as_ch, Hm.as_tb, Hm.as_ife, Hm.as_tup, Hm.as_lst, Hm.as_call, Hm.as_idx, Hm.as_lc, Hm.as_dE, Hm.as_sv, Hm.as_lr, Hm.go_ch, List.contains_nil, List.contains_cons, Nat.reduceBEq, List.any_cons, List.any_nil, beq_self_eq_true, Hm.go_c, Hm.go_g, Hm.go_v, Hm.go_mv, Hm.go_sv, Hm.go_u, Hm.go_b, Hm.go_ix, Hm.go_sl, Hm.go_tb, Hm.go_ife, Hm.go_tup, Hm.go_lst, Hm.go_call, Hm.go_idx, Hm.go_lc, Hm.go_dE, Hm.go_lr, Hm.tst_an, Hm.tst_or, Hm.tst_nt, Hm.tst_one, Hm.tst_e, Hm.val_an, Hm.val_or, Hm.val_nt, Hm.val_one, Hm.val_e, Hm.eo_no, Hm.eo_yes, Hm.to_no, Hm.to_yes, Hm.es_nil, Hm.es_cons, Hm.as_nil, Hm.as_io, Hm.as_ln, Hm.it_seq, Hm.it_scr, Hm.it_rng, Hm.it_enum, Hm.s_expr, Hm.s_ret, Hm.s_iff, Hm.s_app, Hm.s_put, Hm.s_pass, Hm.s_brk, Hm.s_cnt, Hm.ss_nil, Hm.ss_cons, Hm.kU_1, Hm.kU_2, Hm.kU_3, Hm.kB2_1, Hm.kB2_2, Hm.kB2_3, Hm.kB1_1, Hm.kB1_2, Hm.kB1_3, Hm.kI2_1, Hm.kI2_2, Hm.kI2_3, Hm.kI1_1, Hm.kI1_2, Hm.kI1_3, Hm.kS3_1, Hm.kS3_2, Hm.kS3_3, Hm.kS2_1, Hm.kS2_2, Hm.kS2_3, Hm.kS1_1, Hm.kS1_2, Hm.kS1_3, Hm.kC3_1, Hm.kC3_2, Hm.kC3_3, Hm.kC2'_1, Hm.kC2'_2, Hm.kC2_1, Hm.kC2_2, Hm.kC2_3, Hm.kC1_1, Hm.kC1_2, Hm.kC1_3, Hm.kTb_1, Hm.kTb_2, Hm.kTb_3, Hm.kIf_1, Hm.kIf_2, Hm.kIf_3, Hm.kIf_4, Hm.kTup_1, Hm.kTup_2, Hm.kTup_3, Hm.kLst_1, Hm.kLst_2, Hm.kLst_3, Hm.kCall_1, Hm.kCall_2, Hm.kCall_3, Hm.kX2_1, Hm.kX2_2, Hm.kX2_3, Hm.kX1_1, Hm.kX1_2, Hm.kX1_3, Hm.kL2_1, Hm.kL1_1, Hm.kL1_2, Hm.kL1_3, Hm.kLr_1, Hm.kLr_2, Hm.kLr_3, Hm.kOwn_1, Hm.kOwn_2, Hm.kOwn_3, Hm.kAn_1, Hm.kAn_2, Hm.kAn_3, Hm.kAn_4, Hm.kOr_1, Hm.kOr_2, Hm.kOr_3, Hm.kOr_4, Hm.kNt_1, Hm.kNt_2, Hm.kNt_3, Hm.kTr'_1, Hm.kTr'_2, Hm.kTr_1, Hm.kTr_2, Hm.kTr_3, Hm.kAnV_1, Hm.kAnV_2, Hm.kAnV_3, Hm.kAnV_4, Hm.kOrV_1, Hm.kOrV_2, Hm.kOrV_3, Hm.kOrV_4, Hm.kVl_1, Hm.kVl_2, Hm.kVl_3, Hm.kEo_1, Hm.kEo_2, Hm.kEo_3, Hm.kEs2_1, Hm.kEs2_2, Hm.kEs2_3, Hm.kEs1_1, Hm.kEs1_2, Hm.kEs1_3, Hm.kAs2_1, Hm.kAs2_2, Hm.kAs2_3, Hm.kAs1_1, Hm.kAs1_2, Hm.kAs1_3, Hm.kW_1, Hm.kW_2, Hm.kSq_1, Hm.kSq_2, Hm.kSq_3, Hm.kScr_1, Hm.kScr_2, Hm.kScr_3, Hm.kRg_1, Hm.kRg_2, Hm.kRg_3, Hm.kEn_1, Hm.kEn_2, Hm.kEn_3, Hm.kSet_1, Hm.kSet_2, Hm.kSet_3, Hm.kExp_1, Hm.kExp_2, Hm.kExp_3, Hm.kRet_1, Hm.kRet_2, Hm.kRet_3, Hm.kIff_1, Hm.kIff_2, Hm.kIff_3, Hm.kIff_4, Hm.kAp2_1, Hm.kAp1_1, Hm.kAp1_2, Hm.kAp1_3, Hm.kAp_1, Hm.kPl_1, Hm.kPl_2, Hm.kPd_1, Hm.kPd_2, Hm.kPk_1, Hm.kPk_2, Hm.kP3_1, Hm.kP3_2, Hm.kP2_1, Hm.kP2_2, Hm.kP2_3, Hm.kP1_1, Hm.kP1_2, Hm.kP1_3, Hm.kFor_1, Hm.kFor_2, Hm.kFor_3, Hm.kSeq_1, Hm.kSeq_2, Hm.kSeq_3, Hm.kSeq_4, Hm.kSeq_5, Hm.kSeq_6, Hm.kOp_s, Hm.kOp_n, Hm.kV_1, Hm.kMv_1, Hm.kSv_1, Hm.cr_1, Hm.cr_2, Hm.add_i, Hm.sub_i, Hm.mul_r, Hm.mul_l, Hm.mod_i, Hm.fdiv_i, Hm.lt_i, Hm.le_i, Hm.gt_i, Hm.ge_i, Hm.eq_i, Hm.eq_b, Hm.eq_s, Hm.ne_i, Hm.ne_b, Hm.min_i, Hm.max_i, Hm.isN_, Hm.notN_, Hm.neg_i, Hm.abs_i, Hm.int_i, Hm.int_b, Hm.len_l, Hm.len_t, Hm.ix_l, Hm.ix_t, Hm.tru_b, Hm.tru_i, Hm.own_i, Hm.ownV_v, Hm.lst_, Hm.tup_, Hm.sz_, Hm.join_s, Hm.join_n, Hm.at_0, Hm.at_1, Hm.at_2, Hm.at_3, Hm.at_4, Hm.at_5, Hm.at_6, Hm.at_7, Hm.at_8, Hm.at_9, Hm.at_10, Hm.at_11, Hm.at_12, Hm.at_13, Hm.at_14, Hm.at_15, Hm.at_16, Hm.at_17, Hm.at_18, Hm.at_19, Hm.at_20, Hm.at_21, Hm.at_22, Hm.at_23, Hm.at_24, Hm.at_25, Hm.ix5_0, Hm.ix5_1, Hm.ix5_2, Hm.ix5_3, Hm.ix5_4, Hm.pow_18, Hm.pow_39, Hm.pow_40, held, D.isC, isCs, E.pu, D.isNon, Cn.d, List.length_cons, List.length_nil, List.getElem?_cons_zero, List.getElem?_cons_succ, List.getElem?_nil, List.set_cons_zero, List.set_cons_succ, List.map_cons, List.map_nil, Option.map_some, Option.map_none, decide_eq_true_eq, Bool.true_and, Bool.and_true, Bool.false_and, Bool.and_false, Bool.not_true, Bool.not_false, Bool.or_true, Bool.true_or, Bool.or_false, Bool.false_or, or_true, true_or, or_false, false_or, and_true, true_and, Bool.false_eq_true, reduceCtorEq, not_true_eq_false, not_false_eq_true, Nat.reduceAdd, Nat.reduceLT, Nat.zero_add, eq_self, decide_true, decide_false, ↓reduceIte, Option.isSome_some, Option.isSome_none, ne_eq, Int.reduceNeg, Int.reducePow, Int.reduceLT, Int.reduceLE, Int.reduceEq, Int.reduceSub, Int.reduceAdd, Int.reduceMul, Nat.reducePow, Nat.reduceLeDiff]
        exact ⟨_, _, rfl, .mk _ _ _ _ _ _ ha, fmod_ok _ h1⟩
/-! ### the draw as a function -/
def tk (n : Nat) (s : D) (m : Int) : Int := match F (n + 2) 3 [s, .int m] with
  | .ok (.int t) _ => t
  | _ => 0
def ts (n : Nat) (s : D) (m : Int) : D := match F (n + 2) 3 [s, .int m] with
  | .ok _ [some s', _] => s'
  | _ => .non
theorem tk_eq {n : Nat} {s : D} {m : Int} (h : St s) (hm : m < 1073741824) : F (n + 2) 3 [s, .int m] = .ok (.int (tk n s m)) [some (ts n s m), none] ∧ St (ts n s m) ∧ 0 ≤ tk n s m ∧ (2 ≤ m → tk n s m < m) ∧ (m < 2 → tk n s m = 0) := by
  obtain ⟨t, s', e, h1, h2⟩ := take n s h m hm
  have e1 : tk n s m = t := by unfold tk; rw [e]
  have e2 : ts n s m = s' := by unfold ts; rw [e]
  rw [e1, e2]
  exact ⟨e, h1, h2⟩
theorem st_ts {n : Nat} {s : D} {m : Int} (h : St s) (hm : m < 1073741824) : St (ts n s m) := (tk_eq h hm).2.1
theorem call_take {n : Nat} {s : D} {m : Int} (h : St s) (hm : m < 1073741824) (r : Ev) : callR (F (n + 2)) 3 [.io 0, .d (.int m)] (some s :: r) = .ok (.int (tk n s m), false) (some (ts n s m) :: r) := by
  rw [callR_ok (as := [.io 0, .d (.int m)]) (ds := [s, .int m]) rfl (by show ([0] : List Nat).Nodup; decide) (tk_eq h hm).1 rfl]
  rfl
theorem call_take' {n : Nat} {s : D} {m : Int} (h : St s ∧ m < 1073741824) (r : Ev) : callR (F (n + 2)) 3 [.io 0, .d (.int m)] (some s :: r) = .ok (.int (tk n s m), false) (some (ts n s m) :: r) := call_take h.1 h.2 r
/-! ### one of a list -/
theorem cl4 (n : Nat) (ds : List D) : F (n + 1) 4 ds = d__law_pick.run (F n) ds := rfl
theorem pick (n : Nat) (s : D) (h : St s) (o : Bool) (xs : List D) (hx : isCs xs = true) (h0 : 0 < xs.length) (hl : xs.length < 1073741824) : ∃ d s', F (n + 3) 4 [s, .lst o xs] = .ok d [some s', none] ∧ St s' ∧ d ∈ xs := by
  rw [cl4, Df.run_eq _ _ _ rfl]
  show ∃ d s', (Ss.go (F (n + 2)) [0] b__law_pick [some s, some (.lst o xs)]).toCR d__law_pick = .ok d [some s', none] ∧ St s' ∧ d ∈ xs
  have hcl : D.clr (.lst o xs) = .lst false xs := by rw [D.clr, clrs_of xs hx]
  have hm : ((xs.length : Nat) : Int) < 1073741824 := by omega
  have h2 := call_take (n := n) h hm [some (.lst false xs)]
  obtain ⟨e1, e2, e3, e4, e5⟩ := tk_eq (n := n) h hm
  have hlt : (tk n s xs.length).toNat < xs.length := by
    by_cases h3 : (2 : Int) ≤ xs.length
    · have := e4 h3
      omega
    · have := e5 (by omega)
      rw [this]
      exact h0
  have h4 : L2.atI xs (tk n s xs.length) = some (xs[(tk n s xs.length).toNat]) := by
    have q := atI_nat (xs := xs) (j := (tk n s xs.length).toNat) (v := xs[(tk n s xs.length).toNat]) (List.getElem?_eq_getElem hlt)
    rwa [Int.toNat_of_nonneg e3] at q
  simp only [b__law_pick, hcl, h2, h4, Hm.s_set, Hm.s_for, Hm.as_c, Hm.as_g, Hm.as_v, Hm.as_mv, Hm.as_u, Hm.as_b, Hm.as_ix, Hm.as_sl, Hm.as_ch, Hm.as_tb, Hm.as_ife, Hm.as_tup, Hm.as_lst, Hm.as_call, Hm.as_idx, Hm.as_lc, Hm.as_dE, Hm.as_sv, Hm.as_lr, Hm.go_ch, List.contains_nil, List.contains_cons, Nat.reduceBEq, List.any_cons, List.any_nil, beq_self_eq_true, Hm.go_c, Hm.go_g, Hm.go_v, Hm.go_mv, Hm.go_sv, Hm.go_u, Hm.go_b, Hm.go_ix, Hm.go_sl, Hm.go_tb, Hm.go_ife, Hm.go_tup, Hm.go_lst, Hm.go_call, Hm.go_idx, Hm.go_lc, Hm.go_dE, Hm.go_lr, Hm.tst_an, Hm.tst_or, Hm.tst_nt, Hm.tst_one, Hm.tst_e, Hm.val_an, Hm.val_or, Hm.val_nt, Hm.val_one, Hm.val_e, Hm.eo_no, Hm.eo_yes, Hm.to_no, Hm.to_yes, Hm.es_nil, Hm.es_cons, Hm.as_nil, Hm.as_io, Hm.as_ln, Hm.it_seq, Hm.it_scr, Hm.it_rng, Hm.it_enum, Hm.s_expr, Hm.s_ret, Hm.s_iff, Hm.s_app, Hm.s_put, Hm.s_pass, Hm.s_brk, Hm.s_cnt, Hm.ss_nil, Hm.ss_cons, Hm.kU_1, Hm.kU_2, Hm.kU_3, Hm.kB2_1, Hm.kB2_2, Hm.kB2_3, Hm.kB1_1, Hm.kB1_2, Hm.kB1_3, Hm.kI2_1, Hm.kI2_2, Hm.kI2_3, Hm.kI1_1, Hm.kI1_2, Hm.kI1_3, Hm.kS3_1, Hm.kS3_2, Hm.kS3_3, Hm.kS2_1, Hm.kS2_2, Hm.kS2_3, Hm.kS1_1, Hm.kS1_2, Hm.kS1_3, Hm.kC3_1, Hm.kC3_2, Hm.kC3_3, Hm.kC2'_1, Hm.kC2'_2, Hm.kC2_1, Hm.kC2_2, Hm.kC2_3, Hm.kC1_1, Hm.kC1_2, Hm.kC1_3, Hm.kTb_1, Hm.kTb_2, Hm.kTb_3, Hm.kIf_1, Hm.kIf_2, Hm.kIf_3, Hm.kIf_4, Hm.kTup_1, Hm.kTup_2, Hm.kTup_3, Hm.kLst_1, Hm.kLst_2, Hm.kLst_3, Hm.kCall_1, Hm.kCall_2, Hm.kCall_3, Hm.kX2_1, Hm.kX2_2, Hm.kX2_3, Hm.kX1_1, Hm.kX1_2, Hm.kX1_3, Hm.kL2_1, Hm.kL1_1, Hm.kL1_2, Hm.kL1_3, Hm.kLr_1, Hm.kLr_2, Hm.kLr_3, Hm.kOwn_1, Hm.kOwn_2, Hm.kOwn_3, Hm.kAn_1, Hm.kAn_2, Hm.kAn_3, Hm.kAn_4, Hm.kOr_1, Hm.kOr_2, Hm.kOr_3, Hm.kOr_4, Hm.kNt_1, Hm.kNt_2, Hm.kNt_3, Hm.kTr'_1, Hm.kTr'_2, Hm.kTr_1, Hm.kTr_2, Hm.kTr_3, Hm.kAnV_1, Hm.kAnV_2, Hm.kAnV_3, Hm.kAnV_4, Hm.kOrV_1, Hm.kOrV_2, Hm.kOrV_3, Hm.kOrV_4, Hm.kVl_1, Hm.kVl_2, Hm.kVl_3, Hm.kEo_1, Hm.kEo_2, Hm.kEo_3, Hm.kEs2_1, Hm.kEs2_2, Hm.kEs2_3, Hm.kEs1_1, Hm.kEs1_2, Hm.kEs1_3, Hm.kAs2_1, Hm.kAs2_2, Hm.kAs2_3, Hm.kAs1_1, Hm.kAs1_2, Hm.kAs1_3, Hm.kW_1, Hm.kW_2, Hm.kSq_1, Hm.kSq_2, Hm.kSq_3, Hm.kScr_1, Hm.kScr_2, Hm.kScr_3, Hm.kRg_1, Hm.kRg_2, Hm.kRg_3, Hm.kEn_1, Hm.kEn_2, Hm.kEn_3, Hm.kSet_1, Hm.kSet_2, Hm.kSet_3, Hm.kExp_1, Hm.kExp_2, Hm.kExp_3, Hm.kRet_1, Hm.kRet_2, Hm.kRet_3, Hm.kIff_1, Hm.kIff_2, Hm.kIff_3, Hm.kIff_4, Hm.kAp2_1, Hm.kAp1_1, Hm.kAp1_2, Hm.kAp1_3, Hm.kAp_1, Hm.kPl_1, Hm.kPl_2, Hm.kPd_1, Hm.kPd_2, Hm.kPk_1, Hm.kPk_2, Hm.kP3_1, Hm.kP3_2, Hm.kP2_1, Hm.kP2_2, Hm.kP2_3, Hm.kP1_1, Hm.kP1_2, Hm.kP1_3, Hm.kFor_1, Hm.kFor_2, Hm.kFor_3, Hm.kSeq_1, Hm.kSeq_2, Hm.kSeq_3, Hm.kSeq_4, Hm.kSeq_5, Hm.kSeq_6, Hm.kOp_s, Hm.kOp_n, Hm.kV_1, Hm.kMv_1, Hm.kSv_1, Hm.cr_1, Hm.cr_2, Hm.add_i, Hm.sub_i, Hm.mul_r, Hm.mul_l, Hm.mod_i, Hm.fdiv_i, Hm.lt_i, Hm.le_i, Hm.gt_i, Hm.ge_i, Hm.eq_i, Hm.eq_b, Hm.eq_s, Hm.ne_i, Hm.ne_b, Hm.min_i, Hm.max_i, Hm.isN_, Hm.notN_, Hm.neg_i, Hm.abs_i, Hm.int_i, Hm.int_b, Hm.len_l, Hm.len_t, Hm.ix_l, Hm.ix_t, Hm.tru_b, Hm.tru_i, Hm.own_i, Hm.ownV_v, Hm.lst_, Hm.tup_, Hm.sz_, Hm.join_s, Hm.join_n, Hm.at_0, Hm.at_1, Hm.at_2, Hm.at_3, Hm.at_4, Hm.at_5, Hm.at_6, Hm.at_7, Hm.at_8, Hm.at_9, Hm.at_10, Hm.at_11, Hm.at_12, Hm.at_13, Hm.at_14, Hm.at_15, Hm.at_16, Hm.at_17, Hm.at_18, Hm.at_19, Hm.at_20, Hm.at_21, Hm.at_22, Hm.at_23, Hm.at_24, Hm.at_25, Hm.ix5_0, Hm.ix5_1, Hm.ix5_2, Hm.ix5_3, Hm.ix5_4, Hm.pow_18, Hm.pow_39, Hm.pow_40, held, D.isC, isCs, E.pu, D.isNon, Cn.d, List.length_cons, List.length_nil, List.getElem?_cons_zero, List.getElem?_cons_succ, List.getElem?_nil, List.set_cons_zero, List.set_cons_succ, List.map_cons, List.map_nil, Option.map_some, Option.map_none, decide_eq_true_eq, Bool.true_and, Bool.and_true, Bool.false_and, Bool.and_false, Bool.not_true, Bool.not_false, Bool.or_true, Bool.true_or, Bool.or_false, Bool.false_or, or_true, true_or, or_false, false_or, and_true, true_and, Bool.false_eq_true, reduceCtorEq, not_true_eq_false, not_false_eq_true, Nat.reduceAdd, Nat.reduceLT, Nat.zero_add, eq_self, decide_true, decide_false, ↓reduceIte, Option.isSome_some, Option.isSome_none, ne_eq, Int.reduceNeg, Int.reducePow, Int.reduceLT, Int.reduceLE, Int.reduceEq, Int.reduceSub, Int.reduceAdd, Int.reduceMul, Nat.reducePow, Nat.reduceLeDiff]
  exact ⟨_, _, rfl, e2, List.getElem_mem hlt⟩
/-! ### a whole number in a range -/
theorem cl5 (n : Nat) (ds : List D) : F (n + 1) 5 ds = d__law_number.run (F n) ds := rfl
theorem number (n : Nat) (s : D) (h : St s) (lo hi : Int) (h1 : lo ≤ hi) (h2 : hi - lo + 1 < 1073741824) : ∃ t s', F (n + 3) 5 [s, .int lo, .int hi] = .ok (.int t) [some s', none, none] ∧ St s' ∧ lo ≤ t ∧ t ≤ hi := by
  rw [cl5, Df.run_eq _ _ _ rfl]
  show ∃ t s', (Ss.go (F (n + 2)) [0] b__law_number [some s, some (.int lo), some (.int hi)]).toCR d__law_number = .ok (.int t) [some s', none, none] ∧ St s' ∧ lo ≤ t ∧ t ≤ hi
  have c1 := call_take (n := n) h (m := 3) (by decide) [some (.int lo), some (.int hi)]
  have s1 := st_ts (n := n) h (m := 3) (by decide)
  by_cases h3 : tk n s 3 = 0
  · have c2 := call_take (n := n) s1 (m := 4) (by decide) [some (.int lo), some (.int hi)]
    obtain ⟨e1, e2, e3, e4, e5⟩ := tk_eq (n := n) s1 (m := 4) (by decide)
    have h6 := e4 (by decide)
    obtain ⟨v, hv, v1, v2⟩ : ∃ v, L2.atI [D.int lo, D.int hi, D.int (if hi < lo + 1 then hi else lo + 1), D.int (if lo > hi - 1 then lo else hi - 1)] (tk n (ts n s 3) 4) = some (.int v) ∧ lo ≤ v ∧ v ≤ hi := by
      rcases (by omega : tk n (ts n s 3) 4 = 0 ∨ tk n (ts n s 3) 4 = 1 ∨ tk n (ts n s 3) 4 = 2 ∨ tk n (ts n s 3) 4 = 3) with z | z | z | z <;> rw [z]
      · exact ⟨_, at_0, by omega, by omega⟩
      · exact ⟨_, at_1, by omega, by omega⟩
      · exact ⟨_, at_2, by split <;> omega, by split <;> omega⟩
      · exact ⟨_, at_3, by split <;> omega, by split <;> omega⟩
    simp only [b__law_number, c1, h3, c2, hv, Hm.s_set, Hm.s_for, Hm.as_c, Hm.as_g, Hm.as_v, Hm.as_mv, Hm.as_u, Hm.as_b, Hm.as_ix, Hm.as_sl, Hm.as_ch, Hm.as_tb, Hm.as_ife, Hm.as_tup, Hm.as_lst, Hm.as_call, Hm.as_idx, Hm.as_lc, Hm.as_dE, Hm.as_sv, Hm.as_lr, Hm.go_ch, List.contains_nil, List.contains_cons, Nat.reduceBEq, List.any_cons, List.any_nil, beq_self_eq_true, Hm.go_c, Hm.go_g, Hm.go_v, Hm.go_mv, Hm.go_sv, Hm.go_u, Hm.go_b, Hm.go_ix, Hm.go_sl, Hm.go_tb, Hm.go_ife, Hm.go_tup, Hm.go_lst, Hm.go_call, Hm.go_idx, Hm.go_lc, Hm.go_dE, Hm.go_lr, Hm.tst_an, Hm.tst_or, Hm.tst_nt, Hm.tst_one, Hm.tst_e, Hm.val_an, Hm.val_or, Hm.val_nt, Hm.val_one, Hm.val_e, Hm.eo_no, Hm.eo_yes, Hm.to_no, Hm.to_yes, Hm.es_nil, Hm.es_cons, Hm.as_nil, Hm.as_io, Hm.as_ln, Hm.it_seq, Hm.it_scr, Hm.it_rng, Hm.it_enum, Hm.s_expr, Hm.s_ret, Hm.s_iff, Hm.s_app, Hm.s_put, Hm.s_pass, Hm.s_brk, Hm.s_cnt, Hm.ss_nil, Hm.ss_cons, Hm.kU_1, Hm.kU_2, Hm.kU_3, Hm.kB2_1, Hm.kB2_2, Hm.kB2_3, Hm.kB1_1, Hm.kB1_2, Hm.kB1_3, Hm.kI2_1, Hm.kI2_2, Hm.kI2_3, Hm.kI1_1, Hm.kI1_2, Hm.kI1_3, Hm.kS3_1, Hm.kS3_2, Hm.kS3_3, Hm.kS2_1, Hm.kS2_2, Hm.kS2_3, Hm.kS1_1, Hm.kS1_2, Hm.kS1_3, Hm.kC3_1, Hm.kC3_2, Hm.kC3_3, Hm.kC2'_1, Hm.kC2'_2, Hm.kC2_1, Hm.kC2_2, Hm.kC2_3, Hm.kC1_1, Hm.kC1_2, Hm.kC1_3, Hm.kTb_1, Hm.kTb_2, Hm.kTb_3, Hm.kIf_1, Hm.kIf_2, Hm.kIf_3, Hm.kIf_4, Hm.kTup_1, Hm.kTup_2, Hm.kTup_3, Hm.kLst_1, Hm.kLst_2, Hm.kLst_3, Hm.kCall_1, Hm.kCall_2, Hm.kCall_3, Hm.kX2_1, Hm.kX2_2, Hm.kX2_3, Hm.kX1_1, Hm.kX1_2, Hm.kX1_3, Hm.kL2_1, Hm.kL1_1, Hm.kL1_2, Hm.kL1_3, Hm.kLr_1, Hm.kLr_2, Hm.kLr_3, Hm.kOwn_1, Hm.kOwn_2, Hm.kOwn_3, Hm.kAn_1, Hm.kAn_2, Hm.kAn_3, Hm.kAn_4, Hm.kOr_1, Hm.kOr_2, Hm.kOr_3, Hm.kOr_4, Hm.kNt_1, Hm.kNt_2, Hm.kNt_3, Hm.kTr'_1, Hm.kTr'_2, Hm.kTr_1, Hm.kTr_2, Hm.kTr_3, Hm.kAnV_1, Hm.kAnV_2, Hm.kAnV_3, Hm.kAnV_4, Hm.kOrV_1, Hm.kOrV_2, Hm.kOrV_3, Hm.kOrV_4, Hm.kVl_1, Hm.kVl_2, Hm.kVl_3, Hm.kEo_1, Hm.kEo_2, Hm.kEo_3, Hm.kEs2_1, Hm.kEs2_2, Hm.kEs2_3, Hm.kEs1_1, Hm.kEs1_2, Hm.kEs1_3, Hm.kAs2_1, Hm.kAs2_2, Hm.kAs2_3, Hm.kAs1_1, Hm.kAs1_2, Hm.kAs1_3, Hm.kW_1, Hm.kW_2, Hm.kSq_1, Hm.kSq_2, Hm.kSq_3, Hm.kScr_1, Hm.kScr_2, Hm.kScr_3, Hm.kRg_1, Hm.kRg_2, Hm.kRg_3, Hm.kEn_1, Hm.kEn_2, Hm.kEn_3, Hm.kSet_1, Hm.kSet_2, Hm.kSet_3, Hm.kExp_1, Hm.kExp_2, Hm.kExp_3, Hm.kRet_1, Hm.kRet_2, Hm.kRet_3, Hm.kIff_1, Hm.kIff_2, Hm.kIff_3, Hm.kIff_4, Hm.kAp2_1, Hm.kAp1_1, Hm.kAp1_2, Hm.kAp1_3, Hm.kAp_1, Hm.kPl_1, Hm.kPl_2, Hm.kPd_1, Hm.kPd_2, Hm.kPk_1, Hm.kPk_2, Hm.kP3_1, Hm.kP3_2, Hm.kP2_1, Hm.kP2_2, Hm.kP2_3, Hm.kP1_1, Hm.kP1_2, Hm.kP1_3, Hm.kFor_1, Hm.kFor_2, Hm.kFor_3, Hm.kSeq_1, Hm.kSeq_2, Hm.kSeq_3, Hm.kSeq_4, Hm.kSeq_5, Hm.kSeq_6, Hm.kOp_s, Hm.kOp_n, Hm.kV_1, Hm.kMv_1, Hm.kSv_1, Hm.cr_1, Hm.cr_2, Hm.add_i, Hm.sub_i, Hm.mul_r, Hm.mul_l, Hm.mod_i, Hm.fdiv_i, Hm.lt_i, Hm.le_i, Hm.gt_i, Hm.ge_i, Hm.eq_i, Hm.eq_b, Hm.eq_s, Hm.ne_i, Hm.ne_b, Hm.min_i, Hm.max_i, Hm.isN_, Hm.notN_, Hm.neg_i, Hm.abs_i, Hm.int_i, Hm.int_b, Hm.len_l, Hm.len_t, Hm.ix_l, Hm.ix_t, Hm.tru_b, Hm.tru_i, Hm.own_i, Hm.ownV_v, Hm.lst_, Hm.tup_, Hm.sz_, Hm.join_s, Hm.join_n, Hm.at_0, Hm.at_1, Hm.at_2, Hm.at_3, Hm.at_4, Hm.at_5, Hm.at_6, Hm.at_7, Hm.at_8, Hm.at_9, Hm.at_10, Hm.at_11, Hm.at_12, Hm.at_13, Hm.at_14, Hm.at_15, Hm.at_16, Hm.at_17, Hm.at_18, Hm.at_19, Hm.at_20, Hm.at_21, Hm.at_22, Hm.at_23, Hm.at_24, Hm.at_25, Hm.ix5_0, Hm.ix5_1, Hm.ix5_2, Hm.ix5_3, Hm.ix5_4, Hm.pow_18, Hm.pow_39, Hm.pow_40, held, D.isC, isCs, E.pu, D.isNon, Cn.d, List.length_cons, List.length_nil, List.getElem?_cons_zero, List.getElem?_cons_succ, List.getElem?_nil, List.set_cons_zero, List.set_cons_succ, List.map_cons, List.map_nil, Option.map_some, Option.map_none, decide_eq_true_eq, Bool.true_and, Bool.and_true, Bool.false_and, Bool.and_false, Bool.not_true, Bool.not_false, Bool.or_true, Bool.true_or, Bool.or_false, Bool.false_or, or_true, true_or, or_false, false_or, and_true, true_and, Bool.false_eq_true, reduceCtorEq, not_true_eq_false, not_false_eq_true, Nat.reduceAdd, Nat.reduceLT, Nat.zero_add, eq_self, decide_true, decide_false, ↓reduceIte, Option.isSome_some, Option.isSome_none, ne_eq, Int.reduceNeg, Int.reducePow, Int.reduceLT, Int.reduceLE, Int.reduceEq, Int.reduceSub, Int.reduceAdd, Int.reduceMul, Nat.reducePow, Nat.reduceLeDiff]
    exact ⟨_, _, rfl, e2, v1, v2⟩
  · have c2 := call_take (n := n) s1 (m := hi - lo + 1) h2 [some (.int lo), some (.int hi)]
    obtain ⟨e1, e2, e3, e4, e5⟩ := tk_eq (n := n) s1 (m := hi - lo + 1) h2
    simp only [b__law_number, c1, h3, c2, Hm.s_set, Hm.s_for, Hm.as_c, Hm.as_g, Hm.as_v, Hm.as_mv, Hm.as_u, Hm.as_b, Hm.as_ix, Hm.as_sl, Hm.as_ch, Hm.as_tb, Hm.as_ife, Hm.as_tup, Hm.as_lst, Hm.as_call, Hm.as_idx, Hm.as_lc, Hm.as_dE, Hm.as_sv, Hm.as_lr, Hm.go_ch, List.contains_nil, List.contains_cons, Nat.reduceBEq, List.any_cons, List.any_nil, beq_self_eq_true, Hm.go_c, Hm.go_g, Hm.go_v, Hm.go_mv, Hm.go_sv, Hm.go_u, Hm.go_b, Hm.go_ix, Hm.go_sl, Hm.go_tb, Hm.go_ife, Hm.go_tup, Hm.go_lst, Hm.go_call, Hm.go_idx, Hm.go_lc, Hm.go_dE, Hm.go_lr, Hm.tst_an, Hm.tst_or, Hm.tst_nt, Hm.tst_one, Hm.tst_e, Hm.val_an, Hm.val_or, Hm.val_nt, Hm.val_one, Hm.val_e, Hm.eo_no, Hm.eo_yes, Hm.to_no, Hm.to_yes, Hm.es_nil, Hm.es_cons, Hm.as_nil, Hm.as_io, Hm.as_ln, Hm.it_seq, Hm.it_scr, Hm.it_rng, Hm.it_enum, Hm.s_expr, Hm.s_ret, Hm.s_iff, Hm.s_app, Hm.s_put, Hm.s_pass, Hm.s_brk, Hm.s_cnt, Hm.ss_nil, Hm.ss_cons, Hm.kU_1, Hm.kU_2, Hm.kU_3, Hm.kB2_1, Hm.kB2_2, Hm.kB2_3, Hm.kB1_1, Hm.kB1_2, Hm.kB1_3, Hm.kI2_1, Hm.kI2_2, Hm.kI2_3, Hm.kI1_1, Hm.kI1_2, Hm.kI1_3, Hm.kS3_1, Hm.kS3_2, Hm.kS3_3, Hm.kS2_1, Hm.kS2_2, Hm.kS2_3, Hm.kS1_1, Hm.kS1_2, Hm.kS1_3, Hm.kC3_1, Hm.kC3_2, Hm.kC3_3, Hm.kC2'_1, Hm.kC2'_2, Hm.kC2_1, Hm.kC2_2, Hm.kC2_3, Hm.kC1_1, Hm.kC1_2, Hm.kC1_3, Hm.kTb_1, Hm.kTb_2, Hm.kTb_3, Hm.kIf_1, Hm.kIf_2, Hm.kIf_3, Hm.kIf_4, Hm.kTup_1, Hm.kTup_2, Hm.kTup_3, Hm.kLst_1, Hm.kLst_2, Hm.kLst_3, Hm.kCall_1, Hm.kCall_2, Hm.kCall_3, Hm.kX2_1, Hm.kX2_2, Hm.kX2_3, Hm.kX1_1, Hm.kX1_2, Hm.kX1_3, Hm.kL2_1, Hm.kL1_1, Hm.kL1_2, Hm.kL1_3, Hm.kLr_1, Hm.kLr_2, Hm.kLr_3, Hm.kOwn_1, Hm.kOwn_2, Hm.kOwn_3, Hm.kAn_1, Hm.kAn_2, Hm.kAn_3, Hm.kAn_4, Hm.kOr_1, Hm.kOr_2, Hm.kOr_3, Hm.kOr_4, Hm.kNt_1, Hm.kNt_2, Hm.kNt_3, Hm.kTr'_1, Hm.kTr'_2, Hm.kTr_1, Hm.kTr_2, Hm.kTr_3, Hm.kAnV_1, Hm.kAnV_2, Hm.kAnV_3, Hm.kAnV_4, Hm.kOrV_1, Hm.kOrV_2, Hm.kOrV_3, Hm.kOrV_4, Hm.kVl_1, Hm.kVl_2, Hm.kVl_3, Hm.kEo_1, Hm.kEo_2, Hm.kEo_3, Hm.kEs2_1, Hm.kEs2_2, Hm.kEs2_3, Hm.kEs1_1, Hm.kEs1_2, Hm.kEs1_3, Hm.kAs2_1, Hm.kAs2_2, Hm.kAs2_3, Hm.kAs1_1, Hm.kAs1_2, Hm.kAs1_3, Hm.kW_1, Hm.kW_2, Hm.kSq_1, Hm.kSq_2, Hm.kSq_3, Hm.kScr_1, Hm.kScr_2, Hm.kScr_3, Hm.kRg_1, Hm.kRg_2, Hm.kRg_3, Hm.kEn_1, Hm.kEn_2, Hm.kEn_3, Hm.kSet_1, Hm.kSet_2, Hm.kSet_3, Hm.kExp_1, Hm.kExp_2, Hm.kExp_3, Hm.kRet_1, Hm.kRet_2, Hm.kRet_3, Hm.kIff_1, Hm.kIff_2, Hm.kIff_3, Hm.kIff_4, Hm.kAp2_1, Hm.kAp1_1, Hm.kAp1_2, Hm.kAp1_3, Hm.kAp_1, Hm.kPl_1, Hm.kPl_2, Hm.kPd_1, Hm.kPd_2, Hm.kPk_1, Hm.kPk_2, Hm.kP3_1, Hm.kP3_2, Hm.kP2_1, Hm.kP2_2, Hm.kP2_3, Hm.kP1_1, Hm.kP1_2, Hm.kP1_3, Hm.kFor_1, Hm.kFor_2, Hm.kFor_3, Hm.kSeq_1, Hm.kSeq_2, Hm.kSeq_3, Hm.kSeq_4, Hm.kSeq_5, Hm.kSeq_6, Hm.kOp_s, Hm.kOp_n, Hm.kV_1, Hm.kMv_1, Hm.kSv_1, Hm.cr_1, Hm.cr_2, Hm.add_i, Hm.sub_i, Hm.mul_r, Hm.mul_l, Hm.mod_i, Hm.fdiv_i, Hm.lt_i, Hm.le_i, Hm.gt_i, Hm.ge_i, Hm.eq_i, Hm.eq_b, Hm.eq_s, Hm.ne_i, Hm.ne_b, Hm.min_i, Hm.max_i, Hm.isN_, Hm.notN_, Hm.neg_i, Hm.abs_i, Hm.int_i, Hm.int_b, Hm.len_l, Hm.len_t, Hm.ix_l, Hm.ix_t, Hm.tru_b, Hm.tru_i, Hm.own_i, Hm.ownV_v, Hm.lst_, Hm.tup_, Hm.sz_, Hm.join_s, Hm.join_n, Hm.at_0, Hm.at_1, Hm.at_2, Hm.at_3, Hm.at_4, Hm.at_5, Hm.at_6, Hm.at_7, Hm.at_8, Hm.at_9, Hm.at_10, Hm.at_11, Hm.at_12, Hm.at_13, Hm.at_14, Hm.at_15, Hm.at_16, Hm.at_17, Hm.at_18, Hm.at_19, Hm.at_20, Hm.at_21, Hm.at_22, Hm.at_23, Hm.at_24, Hm.at_25, Hm.ix5_0, Hm.ix5_1, Hm.ix5_2, Hm.ix5_3, Hm.ix5_4, Hm.pow_18, Hm.pow_39, Hm.pow_40, held, D.isC, isCs, E.pu, D.isNon, Cn.d, List.length_cons, List.length_nil, List.getElem?_cons_zero, List.getElem?_cons_succ, List.getElem?_nil, List.set_cons_zero, List.set_cons_succ, List.map_cons, List.map_nil, Option.map_some, Option.map_none, decide_eq_true_eq, Bool.true_and, Bool.and_true, Bool.false_and, Bool.and_false, Bool.not_true, Bool.not_false, Bool.or_true, Bool.true_or, Bool.or_false, Bool.false_or, or_true, true_or, or_false, false_or, and_true, true_and, Bool.false_eq_true, reduceCtorEq, not_true_eq_false, not_false_eq_true, Nat.reduceAdd, Nat.reduceLT, Nat.zero_add, eq_self, decide_true, decide_false, ↓reduceIte, Option.isSome_some, Option.isSome_none, ne_eq, Int.reduceNeg, Int.reducePow, Int.reduceLT, Int.reduceLE, Int.reduceEq, Int.reduceSub, Int.reduceAdd, Int.reduceMul, Nat.reducePow, Nat.reduceLeDiff]
    exact ⟨_, _, rfl, e2, by omega, by by_cases z : 2 ≤ hi - lo + 1 <;> omega⟩
/-! ### any whole number -/
theorem cl6 (n : Nat) (ds : List D) : F (n + 1) 6 ds = d__law_wide.run (F n) ds := rfl
def b_wide_for : Ss := .cons (.set 1 (.b .add (.b .mul (.v 1) (.c (.int 10000))) (.call 3 (.cons (.io 0) (.cons (.c (.int 10000)) .nil))))) .nil
theorem wide_for (n : Nat) : ∀ (xs : List D) (s : D) (v : Int) (x2 x3 : Option D), St s → ∃ s' v' x2', forG (F (n + 2)) [0] [2] b_wide_for (xs.map fun x => [x]) [some s, some (.int v), x2, x3] = .nx [some s', some (.int v'), x2', x3] ∧ St s' := by
  intro xs
  induction xs with
  | nil => intro s v x2 x3 h; exact ⟨s, v, x2, rfl, h⟩
  | cons x xs ih =>
    intro s v x2 x3 h
    have c1 := call_take (n := n) h (m := 10000) (by decide) [some (.int v), some x, x3]
    have s1 := st_ts (n := n) h (m := 10000) (by decide)
    rw [List.map_cons, forG_cons rfl rfl]
    show ∃ s' v' x2', kFo (F (n + 2)) [0] [2] b_wide_for (xs.map fun x => [x]) (Ss.go (F (n + 2)) [0] b_wide_for [some s, some (.int v), some x, x3]) = _ ∧ _
    have e : Ss.go (F (n + 2)) [0] b_wide_for [some s, some (.int v), some x, x3] = .nx [some (ts n s 10000), some (.int (v * 10000 + tk n s 10000)), some x, x3] := by
      simp only [b_wide_for, c1, Hm.s_set, Hm.s_for, Hm.as_c, Hm.as_g, Hm.as_v, Hm.as_mv, Hm.as_u, Hm.as_b, Hm.as_ix, Hm.as_sl, Hm.as_ch, Hm.as_tb, Hm.as_ife, Hm.as_tup, Hm.as_lst, Hm.as_call, Hm.as_idx, Hm.as_lc, Hm.as_dE, Hm.as_sv, Hm.as_lr, Hm.go_ch, List.contains_nil, List.contains_cons, Nat.reduceBEq, List.any_cons, List.any_nil, beq_self_eq_true, Hm.go_c, Hm.go_g, Hm.go_v, Hm.go_mv, Hm.go_sv, Hm.go_u, Hm.go_b, Hm.go_ix, Hm.go_sl, Hm.go_tb, Hm.go_ife, Hm.go_tup, Hm.go_lst, Hm.go_call, Hm.go_idx, Hm.go_lc, Hm.go_dE, Hm.go_lr, Hm.tst_an, Hm.tst_or, Hm.tst_nt, Hm.tst_one, Hm.tst_e, Hm.val_an, Hm.val_or, Hm.val_nt, Hm.val_one, Hm.val_e, Hm.eo_no, Hm.eo_yes, Hm.to_no, Hm.to_yes, Hm.es_nil, Hm.es_cons, Hm.as_nil, Hm.as_io, Hm.as_ln, Hm.it_seq, Hm.it_scr, Hm.it_rng, Hm.it_enum, Hm.s_expr, Hm.s_ret, Hm.s_iff, Hm.s_app, Hm.s_put, Hm.s_pass, Hm.s_brk, Hm.s_cnt, Hm.ss_nil, Hm.ss_cons, Hm.kU_1, Hm.kU_2, Hm.kU_3, Hm.kB2_1, Hm.kB2_2, Hm.kB2_3, Hm.kB1_1, Hm.kB1_2, Hm.kB1_3, Hm.kI2_1, Hm.kI2_2, Hm.kI2_3, Hm.kI1_1, Hm.kI1_2, Hm.kI1_3, Hm.kS3_1, Hm.kS3_2, Hm.kS3_3, Hm.kS2_1, Hm.kS2_2, Hm.kS2_3, Hm.kS1_1, Hm.kS1_2, Hm.kS1_3, Hm.kC3_1, Hm.kC3_2, Hm.kC3_3, Hm.kC2'_1, Hm.kC2'_2, Hm.kC2_1, Hm.kC2_2, Hm.kC2_3, Hm.kC1_1, Hm.kC1_2, Hm.kC1_3, Hm.kTb_1, Hm.kTb_2, Hm.kTb_3, Hm.kIf_1, Hm.kIf_2, Hm.kIf_3, Hm.kIf_4, Hm.kTup_1, Hm.kTup_2, Hm.kTup_3, Hm.kLst_1, Hm.kLst_2, Hm.kLst_3, Hm.kCall_1, Hm.kCall_2, Hm.kCall_3, Hm.kX2_1, Hm.kX2_2, Hm.kX2_3, Hm.kX1_1, Hm.kX1_2, Hm.kX1_3, Hm.kL2_1, Hm.kL1_1, Hm.kL1_2, Hm.kL1_3, Hm.kLr_1, Hm.kLr_2, Hm.kLr_3, Hm.kOwn_1, Hm.kOwn_2, Hm.kOwn_3, Hm.kAn_1, Hm.kAn_2, Hm.kAn_3, Hm.kAn_4, Hm.kOr_1, Hm.kOr_2, Hm.kOr_3, Hm.kOr_4, Hm.kNt_1, Hm.kNt_2, Hm.kNt_3, Hm.kTr'_1, Hm.kTr'_2, Hm.kTr_1, Hm.kTr_2, Hm.kTr_3, Hm.kAnV_1, Hm.kAnV_2, Hm.kAnV_3, Hm.kAnV_4, Hm.kOrV_1, Hm.kOrV_2, Hm.kOrV_3, Hm.kOrV_4, Hm.kVl_1, Hm.kVl_2, Hm.kVl_3, Hm.kEo_1, Hm.kEo_2, Hm.kEo_3, Hm.kEs2_1, Hm.kEs2_2, Hm.kEs2_3, Hm.kEs1_1, Hm.kEs1_2, Hm.kEs1_3, Hm.kAs2_1, Hm.kAs2_2, Hm.kAs2_3, Hm.kAs1_1, Hm.kAs1_2, Hm.kAs1_3, Hm.kW_1, Hm.kW_2, Hm.kSq_1, Hm.kSq_2, Hm.kSq_3, Hm.kScr_1, Hm.kScr_2, Hm.kScr_3, Hm.kRg_1, Hm.kRg_2, Hm.kRg_3, Hm.kEn_1, Hm.kEn_2, Hm.kEn_3, Hm.kSet_1, Hm.kSet_2, Hm.kSet_3, Hm.kExp_1, Hm.kExp_2, Hm.kExp_3, Hm.kRet_1, Hm.kRet_2, Hm.kRet_3, Hm.kIff_1, Hm.kIff_2, Hm.kIff_3, Hm.kIff_4, Hm.kAp2_1, Hm.kAp1_1, Hm.kAp1_2, Hm.kAp1_3, Hm.kAp_1, Hm.kPl_1, Hm.kPl_2, Hm.kPd_1, Hm.kPd_2, Hm.kPk_1, Hm.kPk_2, Hm.kP3_1, Hm.kP3_2, Hm.kP2_1, Hm.kP2_2, Hm.kP2_3, Hm.kP1_1, Hm.kP1_2, Hm.kP1_3, Hm.kFor_1, Hm.kFor_2, Hm.kFor_3, Hm.kSeq_1, Hm.kSeq_2, Hm.kSeq_3, Hm.kSeq_4, Hm.kSeq_5, Hm.kSeq_6, Hm.kOp_s, Hm.kOp_n, Hm.kV_1, Hm.kMv_1, Hm.kSv_1, Hm.cr_1, Hm.cr_2, Hm.add_i, Hm.sub_i, Hm.mul_r, Hm.mul_l, Hm.mod_i, Hm.fdiv_i, Hm.lt_i, Hm.le_i, Hm.gt_i, Hm.ge_i, Hm.eq_i, Hm.eq_b, Hm.eq_s, Hm.ne_i, Hm.ne_b, Hm.min_i, Hm.max_i, Hm.isN_, Hm.notN_, Hm.neg_i, Hm.abs_i, Hm.int_i, Hm.int_b, Hm.len_l, Hm.len_t, Hm.ix_l, Hm.ix_t, Hm.tru_b, Hm.tru_i, Hm.own_i, Hm.ownV_v, Hm.lst_, Hm.tup_, Hm.sz_, Hm.join_s, Hm.join_n, Hm.at_0, Hm.at_1, Hm.at_2, Hm.at_3, Hm.at_4, Hm.at_5, Hm.at_6, Hm.at_7, Hm.at_8, Hm.at_9, Hm.at_10, Hm.at_11, Hm.at_12, Hm.at_13, Hm.at_14, Hm.at_15, Hm.at_16, Hm.at_17, Hm.at_18, Hm.at_19, Hm.at_20, Hm.at_21, Hm.at_22, Hm.at_23, Hm.at_24, Hm.at_25, Hm.ix5_0, Hm.ix5_1, Hm.ix5_2, Hm.ix5_3, Hm.ix5_4, Hm.pow_18, Hm.pow_39, Hm.pow_40, held, D.isC, isCs, E.pu, D.isNon, Cn.d, List.length_cons, List.length_nil, List.getElem?_cons_zero, List.getElem?_cons_succ, List.getElem?_nil, List.set_cons_zero, List.set_cons_succ, List.map_cons, List.map_nil, Option.map_some, Option.map_none, decide_eq_true_eq, Bool.true_and, Bool.and_true, Bool.false_and, Bool.and_false, Bool.not_true, Bool.not_false, Bool.or_true, Bool.true_or, Bool.or_false, Bool.false_or, or_true, true_or, or_false, false_or, and_true, true_and, Bool.false_eq_true, reduceCtorEq, not_true_eq_false, not_false_eq_true, Nat.reduceAdd, Nat.reduceLT, Nat.zero_add, eq_self, decide_true, decide_false, ↓reduceIte, Option.isSome_some, Option.isSome_none, ne_eq, Int.reduceNeg, Int.reducePow, Int.reduceLT, Int.reduceLE, Int.reduceEq, Int.reduceSub, Int.reduceAdd, Int.reduceMul, Nat.reducePow, Nat.reduceLeDiff]
    rw [e]
    exact ih _ _ _ _ s1
theorem wide (n : Nat) (s : D) (h : St s) : ∃ t s', F (n + 4) 6 [s] = .ok (.int t) [some s'] ∧ St s' := by
  rw [cl6, Df.run_eq _ _ _ rfl]
  show ∃ t s', (Ss.go (F (n + 3)) [0] b__law_wide [some s, none, none, none]).toCR d__law_wide = .ok (.int t) [some s'] ∧ St s'
  have c1 := call_take (n := n + 1) h (m := 4) (by decide) [none, none, none]
  have s1 := st_ts (n := n + 1) h (m := 4) (by decide)
  by_cases h3 : tk (n + 1) s 4 = 0
  · obtain ⟨d, s', e1, e2, e3⟩ := pick n (ts (n + 1) s 4) s1 true ([0, 1, -1, 2, 6, 10, 11, 400, 401, 9999, -9999, 10000, -10000, 10 ^ 40 - 1, 1 - 10 ^ 40].map D.int) (cells_isC _) (by decide) (by decide)
    obtain ⟨z, _, rfl⟩ := List.mem_map.mp e3
    have c2 : ∀ x3, callR (F (n + 3)) 4 [.io 0, .d (.lst true ([0, 1, -1, 2, 6, 10, 11, 400, 401, 9999, -9999, 10000, -10000, 10 ^ 40 - 1, 1 - 10 ^ 40].map D.int))] [some (ts (n + 1) s 4), none, none, x3] = .ok (.int z, false) [some s', none, none, x3] := fun x3 => by
      rw [callR_ok (ds := [ts (n + 1) s 4, .lst true ([0, 1, -1, 2, 6, 10, 11, 400, 401, 9999, -9999, 10000, -10000, 10 ^ 40 - 1, 1 - 10 ^ 40].map D.int)]) rfl (by show ([0] : List Nat).Nodup; decide) e1 rfl]
      rfl
    simp only [List.map_cons, List.map_nil, Int.reduceSub, Int.reducePow, Int.reduceNeg] at c2
    simp only [b__law_wide, c1, h3, c2, Hm.s_set, Hm.s_for, Hm.as_c, Hm.as_g, Hm.as_v, Hm.as_mv, Hm.as_u, Hm.as_b, Hm.as_ix, Hm.as_sl, Hm.as_ch, Hm.as_tb, Hm.as_ife, Hm.as_tup, Hm.as_lst, Hm.as_call, Hm.as_idx, Hm.as_lc, Hm.as_dE, Hm.as_sv, Hm.as_lr, Hm.go_ch, List.contains_nil, List.contains_cons, Nat.reduceBEq, List.any_cons, List.any_nil, beq_self_eq_true, Hm.go_c, Hm.go_g, Hm.go_v, Hm.go_mv, Hm.go_sv, Hm.go_u, Hm.go_b, Hm.go_ix, Hm.go_sl, Hm.go_tb, Hm.go_ife, Hm.go_tup, Hm.go_lst, Hm.go_call, Hm.go_idx, Hm.go_lc, Hm.go_dE, Hm.go_lr, Hm.tst_an, Hm.tst_or, Hm.tst_nt, Hm.tst_one, Hm.tst_e, Hm.val_an, Hm.val_or, Hm.val_nt, Hm.val_one, Hm.val_e, Hm.eo_no, Hm.eo_yes, Hm.to_no, Hm.to_yes, Hm.es_nil, Hm.es_cons, Hm.as_nil, Hm.as_io, Hm.as_ln, Hm.it_seq, Hm.it_scr, Hm.it_rng, Hm.it_enum, Hm.s_expr, Hm.s_ret, Hm.s_iff, Hm.s_app, Hm.s_put, Hm.s_pass, Hm.s_brk, Hm.s_cnt, Hm.ss_nil, Hm.ss_cons, Hm.kU_1, Hm.kU_2, Hm.kU_3, Hm.kB2_1, Hm.kB2_2, Hm.kB2_3, Hm.kB1_1, Hm.kB1_2, Hm.kB1_3, Hm.kI2_1, Hm.kI2_2, Hm.kI2_3, Hm.kI1_1, Hm.kI1_2, Hm.kI1_3, Hm.kS3_1, Hm.kS3_2, Hm.kS3_3, Hm.kS2_1, Hm.kS2_2, Hm.kS2_3, Hm.kS1_1, Hm.kS1_2, Hm.kS1_3, Hm.kC3_1, Hm.kC3_2, Hm.kC3_3, Hm.kC2'_1, Hm.kC2'_2, Hm.kC2_1, Hm.kC2_2, Hm.kC2_3, Hm.kC1_1, Hm.kC1_2, Hm.kC1_3, Hm.kTb_1, Hm.kTb_2, Hm.kTb_3, Hm.kIf_1, Hm.kIf_2, Hm.kIf_3, Hm.kIf_4, Hm.kTup_1, Hm.kTup_2, Hm.kTup_3, Hm.kLst_1, Hm.kLst_2, Hm.kLst_3, Hm.kCall_1, Hm.kCall_2, Hm.kCall_3, Hm.kX2_1, Hm.kX2_2, Hm.kX2_3, Hm.kX1_1, Hm.kX1_2, Hm.kX1_3, Hm.kL2_1, Hm.kL1_1, Hm.kL1_2, Hm.kL1_3, Hm.kLr_1, Hm.kLr_2, Hm.kLr_3, Hm.kOwn_1, Hm.kOwn_2, Hm.kOwn_3, Hm.kAn_1, Hm.kAn_2, Hm.kAn_3, Hm.kAn_4, Hm.kOr_1, Hm.kOr_2, Hm.kOr_3, Hm.kOr_4, Hm.kNt_1, Hm.kNt_2, Hm.kNt_3, Hm.kTr'_1, Hm.kTr'_2, Hm.kTr_1, Hm.kTr_2, Hm.kTr_3, Hm.kAnV_1, Hm.kAnV_2, Hm.kAnV_3, Hm.kAnV_4, Hm.kOrV_1, Hm.kOrV_2, Hm.kOrV_3, Hm.kOrV_4, Hm.kVl_1, Hm.kVl_2, Hm.kVl_3, Hm.kEo_1, Hm.kEo_2, Hm.kEo_3, Hm.kEs2_1, Hm.kEs2_2, Hm.kEs2_3, Hm.kEs1_1, Hm.kEs1_2, Hm.kEs1_3, Hm.kAs2_1, Hm.kAs2_2, Hm.kAs2_3, Hm.kAs1_1, Hm.kAs1_2, Hm.kAs1_3, Hm.kW_1, Hm.kW_2, Hm.kSq_1, Hm.kSq_2, Hm.kSq_3, Hm.kScr_1, Hm.kScr_2, Hm.kScr_3, Hm.kRg_1, Hm.kRg_2, Hm.kRg_3, Hm.kEn_1, Hm.kEn_2, Hm.kEn_3, Hm.kSet_1, Hm.kSet_2, Hm.kSet_3, Hm.kExp_1, Hm.kExp_2, Hm.kExp_3, Hm.kRet_1, Hm.kRet_2, Hm.kRet_3, Hm.kIff_1, Hm.kIff_2, Hm.kIff_3, Hm.kIff_4, Hm.kAp2_1, Hm.kAp1_1, Hm.kAp1_2, Hm.kAp1_3, Hm.kAp_1, Hm.kPl_1, Hm.kPl_2, Hm.kPd_1, Hm.kPd_2, Hm.kPk_1, Hm.kPk_2, Hm.kP3_1, Hm.kP3_2, Hm.kP2_1, Hm.kP2_2, Hm.kP2_3, Hm.kP1_1, Hm.kP1_2, Hm.kP1_3, Hm.kFor_1, Hm.kFor_2, Hm.kFor_3, Hm.kSeq_1, Hm.kSeq_2, Hm.kSeq_3, Hm.kSeq_4, Hm.kSeq_5, Hm.kSeq_6, Hm.kOp_s, Hm.kOp_n, Hm.kV_1, Hm.kMv_1, Hm.kSv_1, Hm.cr_1, Hm.cr_2, Hm.add_i, Hm.sub_i, Hm.mul_r, Hm.mul_l, Hm.mod_i, Hm.fdiv_i, Hm.lt_i, Hm.le_i, Hm.gt_i, Hm.ge_i, Hm.eq_i, Hm.eq_b, Hm.eq_s, Hm.ne_i, Hm.ne_b, Hm.min_i, Hm.max_i, Hm.isN_, Hm.notN_, Hm.neg_i, Hm.abs_i, Hm.int_i, Hm.int_b, Hm.len_l, Hm.len_t, Hm.ix_l, Hm.ix_t, Hm.tru_b, Hm.tru_i, Hm.own_i, Hm.ownV_v, Hm.lst_, Hm.tup_, Hm.sz_, Hm.join_s, Hm.join_n, Hm.at_0, Hm.at_1, Hm.at_2, Hm.at_3, Hm.at_4, Hm.at_5, Hm.at_6, Hm.at_7, Hm.at_8, Hm.at_9, Hm.at_10, Hm.at_11, Hm.at_12, Hm.at_13, Hm.at_14, Hm.at_15, Hm.at_16, Hm.at_17, Hm.at_18, Hm.at_19, Hm.at_20, Hm.at_21, Hm.at_22, Hm.at_23, Hm.at_24, Hm.at_25, Hm.ix5_0, Hm.ix5_1, Hm.ix5_2, Hm.ix5_3, Hm.ix5_4, Hm.pow_18, Hm.pow_39, Hm.pow_40, held, D.isC, isCs, E.pu, D.isNon, Cn.d, List.length_cons, List.length_nil, List.getElem?_cons_zero, List.getElem?_cons_succ, List.getElem?_nil, List.set_cons_zero, List.set_cons_succ, List.map_cons, List.map_nil, Option.map_some, Option.map_none, decide_eq_true_eq, Bool.true_and, Bool.and_true, Bool.false_and, Bool.and_false, Bool.not_true, Bool.not_false, Bool.or_true, Bool.true_or, Bool.or_false, Bool.false_or, or_true, true_or, or_false, false_or, and_true, true_and, Bool.false_eq_true, reduceCtorEq, not_true_eq_false, not_false_eq_true, Nat.reduceAdd, Nat.reduceLT, Nat.zero_add, eq_self, decide_true, decide_false, ↓reduceIte, Option.isSome_some, Option.isSome_none, ne_eq, Int.reduceNeg, Int.reducePow, Int.reduceLT, Int.reduceLE, Int.reduceEq, Int.reduceSub, Int.reduceAdd, Int.reduceMul, Nat.reducePow, Nat.reduceLeDiff]
    exact ⟨_, _, rfl, e2⟩
  · have c2 := call_take (n := n + 1) s1 (m := 10) (by decide) [some (.int 0), none, none]
    obtain ⟨e1, e2, e3, e4, e5⟩ := tk_eq (n := n + 1) s1 (m := 10) (by decide)
    have h6 := e4 (by decide)
    have h7 : (-4611686018427387904 ≤ 1 + tk (n + 1) (ts (n + 1) s 4) 10) = True := eq_true (by omega)
    have h8 : (1 + tk (n + 1) (ts (n + 1) s 4) 10 < 4611686018427387904) = True := eq_true (by omega)
    obtain ⟨s', v', x2, e6, e7⟩ := wide_for (n + 1) ((List.range (1 + tk (n + 1) (ts (n + 1) s 4) 10).toNat).map fun (i : Nat) => D.int i) (ts (n + 1) (ts (n + 1) s 4) 10) 0 none none e2
    rw [List.map_map] at e6
    have e6 : forG (F (n + 1 + 2)) [0] [2] b_wide_for (List.map (fun (i : Nat) => [D.int i]) (List.range (1 + tk (n + 1) (ts (n + 1) s 4) 10).toNat)) [some (ts (n + 1) (ts (n + 1) s 4) 10), some (.int 0), none, none] = .nx [some s', some (.int v'), x2, none] := e6
    simp only [b_wide_for] at e6
    have c3 := call_take (n := n + 1) e7 (m := 3) (by decide) [some (.int v'), x2, none]
    have s3 := st_ts (n := n + 1) e7 (m := 3) (by decide)
    by_cases h9 : tk (n + 1) s' 3 = 0
    · simp only [b__law_wide, c1, h3, c2, h7, h8, e6, c3, h9, Hm.s_set, Hm.s_for, Hm.as_c, Hm.as_g, Hm.as_v, Hm.as_mv, Hm.as_u, Hm.as_b, Hm.as_ix, Hm.as_sl, Hm.as_ch, Hm.as_tb, Hm.as_ife, Hm.as_tup, Hm.as_lst, Hm.as_call, Hm.as_idx, Hm.as_lc, Hm.as_dE, Hm.as_sv, Hm.as_lr, Hm.go_ch, List.contains_nil, List.contains_cons, Nat.reduceBEq, List.any_cons, List.any_nil, beq_self_eq_true, Hm.go_c, Hm.go_g, Hm.go_v, Hm.go_mv, Hm.go_sv, Hm.go_u, Hm.go_b, Hm.go_ix, Hm.go_sl, Hm.go_tb, Hm.go_ife, Hm.go_tup, Hm.go_lst, Hm.go_call, Hm.go_idx, Hm.go_lc, Hm.go_dE, Hm.go_lr, Hm.tst_an, Hm.tst_or, Hm.tst_nt, Hm.tst_one, Hm.tst_e, Hm.val_an, Hm.val_or, Hm.val_nt, Hm.val_one, Hm.val_e, Hm.eo_no, Hm.eo_yes, Hm.to_no, Hm.to_yes, Hm.es_nil, Hm.es_cons, Hm.as_nil, Hm.as_io, Hm.as_ln, Hm.it_seq, Hm.it_scr, Hm.it_rng, Hm.it_enum, Hm.s_expr, Hm.s_ret, Hm.s_iff, Hm.s_app, Hm.s_put, Hm.s_pass, Hm.s_brk, Hm.s_cnt, Hm.ss_nil, Hm.ss_cons, Hm.kU_1, Hm.kU_2, Hm.kU_3, Hm.kB2_1, Hm.kB2_2, Hm.kB2_3, Hm.kB1_1, Hm.kB1_2, Hm.kB1_3, Hm.kI2_1, Hm.kI2_2, Hm.kI2_3, Hm.kI1_1, Hm.kI1_2, Hm.kI1_3, Hm.kS3_1, Hm.kS3_2, Hm.kS3_3, Hm.kS2_1, Hm.kS2_2, Hm.kS2_3, Hm.kS1_1, Hm.kS1_2, Hm.kS1_3, Hm.kC3_1, Hm.kC3_2, Hm.kC3_3, Hm.kC2'_1, Hm.kC2'_2, Hm.kC2_1, Hm.kC2_2, Hm.kC2_3, Hm.kC1_1, Hm.kC1_2, Hm.kC1_3, Hm.kTb_1, Hm.kTb_2, Hm.kTb_3, Hm.kIf_1, Hm.kIf_2, Hm.kIf_3, Hm.kIf_4, Hm.kTup_1, Hm.kTup_2, Hm.kTup_3, Hm.kLst_1, Hm.kLst_2, Hm.kLst_3, Hm.kCall_1, Hm.kCall_2, Hm.kCall_3, Hm.kX2_1, Hm.kX2_2, Hm.kX2_3, Hm.kX1_1, Hm.kX1_2, Hm.kX1_3, Hm.kL2_1, Hm.kL1_1, Hm.kL1_2, Hm.kL1_3, Hm.kLr_1, Hm.kLr_2, Hm.kLr_3, Hm.kOwn_1, Hm.kOwn_2, Hm.kOwn_3, Hm.kAn_1, Hm.kAn_2, Hm.kAn_3, Hm.kAn_4, Hm.kOr_1, Hm.kOr_2, Hm.kOr_3, Hm.kOr_4, Hm.kNt_1, Hm.kNt_2, Hm.kNt_3, Hm.kTr'_1, Hm.kTr'_2, Hm.kTr_1, Hm.kTr_2, Hm.kTr_3, Hm.kAnV_1, Hm.kAnV_2, Hm.kAnV_3, Hm.kAnV_4, Hm.kOrV_1, Hm.kOrV_2, Hm.kOrV_3, Hm.kOrV_4, Hm.kVl_1, Hm.kVl_2, Hm.kVl_3, Hm.kEo_1, Hm.kEo_2, Hm.kEo_3, Hm.kEs2_1, Hm.kEs2_2, Hm.kEs2_3, Hm.kEs1_1, Hm.kEs1_2, Hm.kEs1_3, Hm.kAs2_1, Hm.kAs2_2, Hm.kAs2_3, Hm.kAs1_1, Hm.kAs1_2, Hm.kAs1_3, Hm.kW_1, Hm.kW_2, Hm.kSq_1, Hm.kSq_2, Hm.kSq_3, Hm.kScr_1, Hm.kScr_2, Hm.kScr_3, Hm.kRg_1, Hm.kRg_2, Hm.kRg_3, Hm.kEn_1, Hm.kEn_2, Hm.kEn_3, Hm.kSet_1, Hm.kSet_2, Hm.kSet_3, Hm.kExp_1, Hm.kExp_2, Hm.kExp_3, Hm.kRet_1, Hm.kRet_2, Hm.kRet_3, Hm.kIff_1, Hm.kIff_2, Hm.kIff_3, Hm.kIff_4, Hm.kAp2_1, Hm.kAp1_1, Hm.kAp1_2, Hm.kAp1_3, Hm.kAp_1, Hm.kPl_1, Hm.kPl_2, Hm.kPd_1, Hm.kPd_2, Hm.kPk_1, Hm.kPk_2, Hm.kP3_1, Hm.kP3_2, Hm.kP2_1, Hm.kP2_2, Hm.kP2_3, Hm.kP1_1, Hm.kP1_2, Hm.kP1_3, Hm.kFor_1, Hm.kFor_2, Hm.kFor_3, Hm.kSeq_1, Hm.kSeq_2, Hm.kSeq_3, Hm.kSeq_4, Hm.kSeq_5, Hm.kSeq_6, Hm.kOp_s, Hm.kOp_n, Hm.kV_1, Hm.kMv_1, Hm.kSv_1, Hm.cr_1, Hm.cr_2, Hm.add_i, Hm.sub_i, Hm.mul_r, Hm.mul_l, Hm.mod_i, Hm.fdiv_i, Hm.lt_i, Hm.le_i, Hm.gt_i, Hm.ge_i, Hm.eq_i, Hm.eq_b, Hm.eq_s, Hm.ne_i, Hm.ne_b, Hm.min_i, Hm.max_i, Hm.isN_, Hm.notN_, Hm.neg_i, Hm.abs_i, Hm.int_i, Hm.int_b, Hm.len_l, Hm.len_t, Hm.ix_l, Hm.ix_t, Hm.tru_b, Hm.tru_i, Hm.own_i, Hm.ownV_v, Hm.lst_, Hm.tup_, Hm.sz_, Hm.join_s, Hm.join_n, Hm.at_0, Hm.at_1, Hm.at_2, Hm.at_3, Hm.at_4, Hm.at_5, Hm.at_6, Hm.at_7, Hm.at_8, Hm.at_9, Hm.at_10, Hm.at_11, Hm.at_12, Hm.at_13, Hm.at_14, Hm.at_15, Hm.at_16, Hm.at_17, Hm.at_18, Hm.at_19, Hm.at_20, Hm.at_21, Hm.at_22, Hm.at_23, Hm.at_24, Hm.at_25, Hm.ix5_0, Hm.ix5_1, Hm.ix5_2, Hm.ix5_3, Hm.ix5_4, Hm.pow_18, Hm.pow_39, Hm.pow_40, held, D.isC, isCs, E.pu, D.isNon, Cn.d, List.length_cons, List.length_nil, List.getElem?_cons_zero, List.getElem?_cons_succ, List.getElem?_nil, List.set_cons_zero, List.set_cons_succ, List.map_cons, List.map_nil, Option.map_some, Option.map_none, decide_eq_true_eq, Bool.true_and, Bool.and_true, Bool.false_and, Bool.and_false, Bool.not_true, Bool.not_false, Bool.or_true, Bool.true_or, Bool.or_false, Bool.false_or, or_true, true_or, or_false, false_or, and_true, true_and, Bool.false_eq_true, reduceCtorEq, not_true_eq_false, not_false_eq_true, Nat.reduceAdd, Nat.reduceLT, Nat.zero_add, eq_self, decide_true, decide_false, ↓reduceIte, Option.isSome_some, Option.isSome_none, ne_eq, Int.reduceNeg, Int.reducePow, Int.reduceLT, Int.reduceLE, Int.reduceEq, Int.reduceSub, Int.reduceAdd, Int.reduceMul, Nat.reducePow, Nat.reduceLeDiff]
      exact ⟨_, _, rfl, s3⟩
    · simp only [b__law_wide, c1, h3, c2, h7, h8, e6, c3, h9, Hm.s_set, Hm.s_for, Hm.as_c, Hm.as_g, Hm.as_v, Hm.as_mv, Hm.as_u, Hm.as_b, Hm.as_ix, Hm.as_sl, Hm.as_ch, Hm.as_tb, Hm.as_ife, Hm.as_tup, Hm.as_lst, Hm.as_call, Hm.as_idx, Hm.as_lc, Hm.as_dE, Hm.as_sv, Hm.as_lr, Hm.go_ch, List.contains_nil, List.contains_cons, Nat.reduceBEq, List.any_cons, List.any_nil, beq_self_eq_true, Hm.go_c, Hm.go_g, Hm.go_v, Hm.go_mv, Hm.go_sv, Hm.go_u, Hm.go_b, Hm.go_ix, Hm.go_sl, Hm.go_tb, Hm.go_ife, Hm.go_tup, Hm.go_lst, Hm.go_call, Hm.go_idx, Hm.go_lc, Hm.go_dE, Hm.go_lr, Hm.tst_an, Hm.tst_or, Hm.tst_nt, Hm.tst_one, Hm.tst_e, Hm.val_an, Hm.val_or, Hm.val_nt, Hm.val_one, Hm.val_e, Hm.eo_no, Hm.eo_yes, Hm.to_no, Hm.to_yes, Hm.es_nil, Hm.es_cons, Hm.as_nil, Hm.as_io, Hm.as_ln, Hm.it_seq, Hm.it_scr, Hm.it_rng, Hm.it_enum, Hm.s_expr, Hm.s_ret, Hm.s_iff, Hm.s_app, Hm.s_put, Hm.s_pass, Hm.s_brk, Hm.s_cnt, Hm.ss_nil, Hm.ss_cons, Hm.kU_1, Hm.kU_2, Hm.kU_3, Hm.kB2_1, Hm.kB2_2, Hm.kB2_3, Hm.kB1_1, Hm.kB1_2, Hm.kB1_3, Hm.kI2_1, Hm.kI2_2, Hm.kI2_3, Hm.kI1_1, Hm.kI1_2, Hm.kI1_3, Hm.kS3_1, Hm.kS3_2, Hm.kS3_3, Hm.kS2_1, Hm.kS2_2, Hm.kS2_3, Hm.kS1_1, Hm.kS1_2, Hm.kS1_3, Hm.kC3_1, Hm.kC3_2, Hm.kC3_3, Hm.kC2'_1, Hm.kC2'_2, Hm.kC2_1, Hm.kC2_2, Hm.kC2_3, Hm.kC1_1, Hm.kC1_2, Hm.kC1_3, Hm.kTb_1, Hm.kTb_2, Hm.kTb_3, Hm.kIf_1, Hm.kIf_2, Hm.kIf_3, Hm.kIf_4, Hm.kTup_1, Hm.kTup_2, Hm.kTup_3, Hm.kLst_1, Hm.kLst_2, Hm.kLst_3, Hm.kCall_1, Hm.kCall_2, Hm.kCall_3, Hm.kX2_1, Hm.kX2_2, Hm.kX2_3, Hm.kX1_1, Hm.kX1_2, Hm.kX1_3, Hm.kL2_1, Hm.kL1_1, Hm.kL1_2, Hm.kL1_3, Hm.kLr_1, Hm.kLr_2, Hm.kLr_3, Hm.kOwn_1, Hm.kOwn_2, Hm.kOwn_3, Hm.kAn_1, Hm.kAn_2, Hm.kAn_3, Hm.kAn_4, Hm.kOr_1, Hm.kOr_2, Hm.kOr_3, Hm.kOr_4, Hm.kNt_1, Hm.kNt_2, Hm.kNt_3, Hm.kTr'_1, Hm.kTr'_2, Hm.kTr_1, Hm.kTr_2, Hm.kTr_3, Hm.kAnV_1, Hm.kAnV_2, Hm.kAnV_3, Hm.kAnV_4, Hm.kOrV_1, Hm.kOrV_2, Hm.kOrV_3, Hm.kOrV_4, Hm.kVl_1, Hm.kVl_2, Hm.kVl_3, Hm.kEo_1, Hm.kEo_2, Hm.kEo_3, Hm.kEs2_1, Hm.kEs2_2, Hm.kEs2_3, Hm.kEs1_1, Hm.kEs1_2, Hm.kEs1_3, Hm.kAs2_1, Hm.kAs2_2, Hm.kAs2_3, Hm.kAs1_1, Hm.kAs1_2, Hm.kAs1_3, Hm.kW_1, Hm.kW_2, Hm.kSq_1, Hm.kSq_2, Hm.kSq_3, Hm.kScr_1, Hm.kScr_2, Hm.kScr_3, Hm.kRg_1, Hm.kRg_2, Hm.kRg_3, Hm.kEn_1, Hm.kEn_2, Hm.kEn_3, Hm.kSet_1, Hm.kSet_2, Hm.kSet_3, Hm.kExp_1, Hm.kExp_2, Hm.kExp_3, Hm.kRet_1, Hm.kRet_2, Hm.kRet_3, Hm.kIff_1, Hm.kIff_2, Hm.kIff_3, Hm.kIff_4, Hm.kAp2_1, Hm.kAp1_1, Hm.kAp1_2, Hm.kAp1_3, Hm.kAp_1, Hm.kPl_1, Hm.kPl_2, Hm.kPd_1, Hm.kPd_2, Hm.kPk_1, Hm.kPk_2, Hm.kP3_1, Hm.kP3_2, Hm.kP2_1, Hm.kP2_2, Hm.kP2_3, Hm.kP1_1, Hm.kP1_2, Hm.kP1_3, Hm.kFor_1, Hm.kFor_2, Hm.kFor_3, Hm.kSeq_1, Hm.kSeq_2, Hm.kSeq_3, Hm.kSeq_4, Hm.kSeq_5, Hm.kSeq_6, Hm.kOp_s, Hm.kOp_n, Hm.kV_1, Hm.kMv_1, Hm.kSv_1, Hm.cr_1, Hm.cr_2, Hm.add_i, Hm.sub_i, Hm.mul_r, Hm.mul_l, Hm.mod_i, Hm.fdiv_i, Hm.lt_i, Hm.le_i, Hm.gt_i, Hm.ge_i, Hm.eq_i, Hm.eq_b, Hm.eq_s, Hm.ne_i, Hm.ne_b, Hm.min_i, Hm.max_i, Hm.isN_, Hm.notN_, Hm.neg_i, Hm.abs_i, Hm.int_i, Hm.int_b, Hm.len_l, Hm.len_t, Hm.ix_l, Hm.ix_t, Hm.tru_b, Hm.tru_i, Hm.own_i, Hm.ownV_v, Hm.lst_, Hm.tup_, Hm.sz_, Hm.join_s, Hm.join_n, Hm.at_0, Hm.at_1, Hm.at_2, Hm.at_3, Hm.at_4, Hm.at_5, Hm.at_6, Hm.at_7, Hm.at_8, Hm.at_9, Hm.at_10, Hm.at_11, Hm.at_12, Hm.at_13, Hm.at_14, Hm.at_15, Hm.at_16, Hm.at_17, Hm.at_18, Hm.at_19, Hm.at_20, Hm.at_21, Hm.at_22, Hm.at_23, Hm.at_24, Hm.at_25, Hm.ix5_0, Hm.ix5_1, Hm.ix5_2, Hm.ix5_3, Hm.ix5_4, Hm.pow_18, Hm.pow_39, Hm.pow_40, held, D.isC, isCs, E.pu, D.isNon, Cn.d, List.length_cons, List.length_nil, List.getElem?_cons_zero, List.getElem?_cons_succ, List.getElem?_nil, List.set_cons_zero, List.set_cons_succ, List.map_cons, List.map_nil, Option.map_some, Option.map_none, decide_eq_true_eq, Bool.true_and, Bool.and_true, Bool.false_and, Bool.and_false, Bool.not_true, Bool.not_false, Bool.or_true, Bool.true_or, Bool.or_false, Bool.false_or, or_true, true_or, or_false, false_or, and_true, true_and, Bool.false_eq_true, reduceCtorEq, not_true_eq_false, not_false_eq_true, Nat.reduceAdd, Nat.reduceLT, Nat.zero_add, eq_self, decide_true, decide_false, ↓reduceIte, Option.isSome_some, Option.isSome_none, ne_eq, Int.reduceNeg, Int.reducePow, Int.reduceLT, Int.reduceLE, Int.reduceEq, Int.reduceSub, Int.reduceAdd, Int.reduceMul, Nat.reducePow, Nat.reduceLeDiff]
      exact ⟨_, _, rfl, s3⟩
/-! ### the store is made -/
theorem cl2 (n : Nat) (ds : List D) : F (n + 1) 2 ds = d__law_store.run (F n) ds := rfl
theorem store_lc (n : Nat) : ∀ (ns : List Int) (x0 x1 x2 x3 x4 : Option D) (acc : List D), acc.length + ns.length < 16777216 → ∃ x, lcG (F n) [4] (.u .int (.v 4)) .no (ns.map fun x => [.int x]) [x0, x1, x2, x3, x4] acc = .ok (acc ++ ns.map .int) [x0, x1, x2, x3, x] := by
  intro ns
  induction ns with
  | nil => intro x0 x1 x2 x3 x4 acc _; exact ⟨x4, by rw [List.map_nil, lcG_nil, List.map_nil, List.append_nil]⟩
  | cons z ns ih =>
    intro x0 x1 x2 x3 x4 acc hl
    rw [List.length_cons] at hl
    obtain ⟨x, e⟩ := ih x0 x1 x2 x3 none (acc ++ [.int z]) (by rw [List.length_append, List.length_cons, List.length_nil]; omega)
    refine ⟨x, ?_⟩
    rw [List.map_cons, lcG_cons rfl rfl, to_no]
    show kG2 (F n) [4] (.u .int (.v 4)) .no (ns.map fun x => [.int x]) acc (kOwn (.u .int (.v 4)) (E.go (F n) (.u .int (.v 4)) [x0, x1, x2, x3, some (.int z)])) = _
    have e2 : kOwn (.u .int (.v 4)) (E.go (F n) (.u .int (.v 4)) [x0, x1, x2, x3, some (.int z)]) = .ok (.int z) [x0, x1, x2, x3, some (.int z)] := by simp only [Hm.s_set, Hm.s_for, Hm.as_c, Hm.as_g, Hm.as_v, Hm.as_mv, Hm.as_u, Hm.as_b, Hm.as_ix, Hm.as_sl, Hm.as_ch, Hm.as_tb, Hm.as_ife, Hm.as_tup, Hm.as_lst, Hm.as_call, Hm.as_idx, Hm.as_lc, Hm.as_dE, Hm.as_sv, Hm.as_lr, Hm.go_ch, List.contains_nil, List.contains_cons, Nat.reduceBEq, List.any_cons, List.any_nil, beq_self_eq_true, Hm.go_c, Hm.go_g, Hm.go_v, Hm.go_mv, Hm.go_sv, Hm.go_u, Hm.go_b, Hm.go_ix, Hm.go_sl, Hm.go_tb, Hm.go_ife, Hm.go_tup, Hm.go_lst, Hm.go_call, Hm.go_idx, Hm.go_lc, Hm.go_dE, Hm.go_lr, Hm.tst_an, Hm.tst_or, Hm.tst_nt, Hm.tst_one, Hm.tst_e, Hm.val_an, Hm.val_or, Hm.val_nt, Hm.val_one, Hm.val_e, Hm.eo_no, Hm.eo_yes, Hm.to_no, Hm.to_yes, Hm.es_nil, Hm.es_cons, Hm.as_nil, Hm.as_io, Hm.as_ln, Hm.it_seq, Hm.it_scr, Hm.it_rng, Hm.it_enum, Hm.s_expr, Hm.s_ret, Hm.s_iff, Hm.s_app, Hm.s_put, Hm.s_pass, Hm.s_brk, Hm.s_cnt, Hm.ss_nil, Hm.ss_cons, Hm.kU_1, Hm.kU_2, Hm.kU_3, Hm.kB2_1, Hm.kB2_2, Hm.kB2_3, Hm.kB1_1, Hm.kB1_2, Hm.kB1_3, Hm.kI2_1, Hm.kI2_2, Hm.kI2_3, Hm.kI1_1, Hm.kI1_2, Hm.kI1_3, Hm.kS3_1, Hm.kS3_2, Hm.kS3_3, Hm.kS2_1, Hm.kS2_2, Hm.kS2_3, Hm.kS1_1, Hm.kS1_2, Hm.kS1_3, Hm.kC3_1, Hm.kC3_2, Hm.kC3_3, Hm.kC2'_1, Hm.kC2'_2, Hm.kC2_1, Hm.kC2_2, Hm.kC2_3, Hm.kC1_1, Hm.kC1_2, Hm.kC1_3, Hm.kTb_1, Hm.kTb_2, Hm.kTb_3, Hm.kIf_1, Hm.kIf_2, Hm.kIf_3, Hm.kIf_4, Hm.kTup_1, Hm.kTup_2, Hm.kTup_3, Hm.kLst_1, Hm.kLst_2, Hm.kLst_3, Hm.kCall_1, Hm.kCall_2, Hm.kCall_3, Hm.kX2_1, Hm.kX2_2, Hm.kX2_3, Hm.kX1_1, Hm.kX1_2, Hm.kX1_3, Hm.kL2_1, Hm.kL1_1, Hm.kL1_2, Hm.kL1_3, Hm.kLr_1, Hm.kLr_2, Hm.kLr_3, Hm.kOwn_1, Hm.kOwn_2, Hm.kOwn_3, Hm.kAn_1, Hm.kAn_2, Hm.kAn_3, Hm.kAn_4, Hm.kOr_1, Hm.kOr_2, Hm.kOr_3, Hm.kOr_4, Hm.kNt_1, Hm.kNt_2, Hm.kNt_3, Hm.kTr'_1, Hm.kTr'_2, Hm.kTr_1, Hm.kTr_2, Hm.kTr_3, Hm.kAnV_1, Hm.kAnV_2, Hm.kAnV_3, Hm.kAnV_4, Hm.kOrV_1, Hm.kOrV_2, Hm.kOrV_3, Hm.kOrV_4, Hm.kVl_1, Hm.kVl_2, Hm.kVl_3, Hm.kEo_1, Hm.kEo_2, Hm.kEo_3, Hm.kEs2_1, Hm.kEs2_2, Hm.kEs2_3, Hm.kEs1_1, Hm.kEs1_2, Hm.kEs1_3, Hm.kAs2_1, Hm.kAs2_2, Hm.kAs2_3, Hm.kAs1_1, Hm.kAs1_2, Hm.kAs1_3, Hm.kW_1, Hm.kW_2, Hm.kSq_1, Hm.kSq_2, Hm.kSq_3, Hm.kScr_1, Hm.kScr_2, Hm.kScr_3, Hm.kRg_1, Hm.kRg_2, Hm.kRg_3, Hm.kEn_1, Hm.kEn_2, Hm.kEn_3, Hm.kSet_1, Hm.kSet_2, Hm.kSet_3, Hm.kExp_1, Hm.kExp_2, Hm.kExp_3, Hm.kRet_1, Hm.kRet_2, Hm.kRet_3, Hm.kIff_1, Hm.kIff_2, Hm.kIff_3, Hm.kIff_4, Hm.kAp2_1, Hm.kAp1_1, Hm.kAp1_2, Hm.kAp1_3, Hm.kAp_1, Hm.kPl_1, Hm.kPl_2, Hm.kPd_1, Hm.kPd_2, Hm.kPk_1, Hm.kPk_2, Hm.kP3_1, Hm.kP3_2, Hm.kP2_1, Hm.kP2_2, Hm.kP2_3, Hm.kP1_1, Hm.kP1_2, Hm.kP1_3, Hm.kFor_1, Hm.kFor_2, Hm.kFor_3, Hm.kSeq_1, Hm.kSeq_2, Hm.kSeq_3, Hm.kSeq_4, Hm.kSeq_5, Hm.kSeq_6, Hm.kOp_s, Hm.kOp_n, Hm.kV_1, Hm.kMv_1, Hm.kSv_1, Hm.cr_1, Hm.cr_2, Hm.add_i, Hm.sub_i, Hm.mul_r, Hm.mul_l, Hm.mod_i, Hm.fdiv_i, Hm.lt_i, Hm.le_i, Hm.gt_i, Hm.ge_i, Hm.eq_i, Hm.eq_b, Hm.eq_s, Hm.ne_i, Hm.ne_b, Hm.min_i, Hm.max_i, Hm.isN_, Hm.notN_, Hm.neg_i, Hm.abs_i, Hm.int_i, Hm.int_b, Hm.len_l, Hm.len_t, Hm.ix_l, Hm.ix_t, Hm.tru_b, Hm.tru_i, Hm.own_i, Hm.ownV_v, Hm.lst_, Hm.tup_, Hm.sz_, Hm.join_s, Hm.join_n, Hm.at_0, Hm.at_1, Hm.at_2, Hm.at_3, Hm.at_4, Hm.at_5, Hm.at_6, Hm.at_7, Hm.at_8, Hm.at_9, Hm.at_10, Hm.at_11, Hm.at_12, Hm.at_13, Hm.at_14, Hm.at_15, Hm.at_16, Hm.at_17, Hm.at_18, Hm.at_19, Hm.at_20, Hm.at_21, Hm.at_22, Hm.at_23, Hm.at_24, Hm.at_25, Hm.ix5_0, Hm.ix5_1, Hm.ix5_2, Hm.ix5_3, Hm.ix5_4, Hm.pow_18, Hm.pow_39, Hm.pow_40, held, D.isC, isCs, E.pu, D.isNon, Cn.d, List.length_cons, List.length_nil, List.getElem?_cons_zero, List.getElem?_cons_succ, List.getElem?_nil, List.set_cons_zero, List.set_cons_succ, List.map_cons, List.map_nil, Option.map_some, Option.map_none, decide_eq_true_eq, Bool.true_and, Bool.and_true, Bool.false_and, Bool.and_false, Bool.not_true, Bool.not_false, Bool.or_true, Bool.true_or, Bool.or_false, Bool.false_or, or_true, true_or, or_false, false_or, and_true, true_and, Bool.false_eq_true, reduceCtorEq, not_true_eq_false, not_false_eq_true, Nat.reduceAdd, Nat.reduceLT, Nat.zero_add, eq_self, decide_true, decide_false, ↓reduceIte, Option.isSome_some, Option.isSome_none, ne_eq, Int.reduceNeg, Int.reducePow, Int.reduceLT, Int.reduceLE, Int.reduceEq, Int.reduceSub, Int.reduceAdd, Int.reduceMul, Nat.reducePow, Nat.reduceLeDiff]
    rw [e2]
    show (if acc.length < sizeLine then _ else _) = _
    rw [if_pos (by rw [sz_]; omega)]
    show lcG (F n) [4] (.u .int (.v 4)) .no (ns.map fun x => [.int x]) [x0, x1, x2, x3, none] (acc ++ [.int z]) = _
    rw [e, List.append_assoc]
    rfl
def b_store_for : Ss := .cons (.set 2 (.b .mod (.u .int (.b .add (.b .add (.b .mul (.v 2) (.c (.int 69069))) (.v 3)) (.c (.int 1)))) (.c (.int 2147483647)))) .nil
theorem store_for (n : Nat) : ∀ (ns : List Int) (x0 x1 x3 x4 : Option D) (v : Int), ∃ v' x, forG (F n) [] [3] b_store_for (ns.map fun x => [.int x]) [x0, x1, some (.int v), x3, x4] = .nx [x0, x1, some (.int v'), x, x4] := by
  intro ns
  induction ns with
  | nil => intro x0 x1 x3 x4 v; exact ⟨v, x3, rfl⟩
  | cons z ns ih =>
    intro x0 x1 x3 x4 v
    rw [List.map_cons, forG_cons rfl rfl]
    show ∃ v' x, kFo (F n) [] [3] b_store_for (ns.map fun x => [.int x]) (Ss.go (F n) [] b_store_for [x0, x1, some (.int v), some (.int z), x4]) = _
    have e : ∃ v2, Ss.go (F n) [] b_store_for [x0, x1, some (.int v), some (.int z), x4] = .nx [x0, x1, some (.int v2), some (.int z), x4] := by
      simp only [b_store_for, Hm.s_set, Hm.s_for, Hm.as_c, Hm.as_g, Hm.as_v, Hm.as_mv, Hm.as_u, Hm.as_b, Hm.as_ix, Hm.as_sl, Hm.as_ch, Hm.as_tb, Hm.as_ife, Hm.as_tup, Hm.as_lst, Hm.as_call, Hm.as_idx, Hm.as_lc, Hm.as_dE, Hm.as_sv, Hm.as_lr, Hm.go_ch, List.contains_nil, List.contains_cons, Nat.reduceBEq, List.any_cons, List.any_nil, beq_self_eq_true, Hm.go_c, Hm.go_g, Hm.go_v, Hm.go_mv, Hm.go_sv, Hm.go_u, Hm.go_b, Hm.go_ix, Hm.go_sl, Hm.go_tb, Hm.go_ife, Hm.go_tup, Hm.go_lst, Hm.go_call, Hm.go_idx, Hm.go_lc, Hm.go_dE, Hm.go_lr, Hm.tst_an, Hm.tst_or, Hm.tst_nt, Hm.tst_one, Hm.tst_e, Hm.val_an, Hm.val_or, Hm.val_nt, Hm.val_one, Hm.val_e, Hm.eo_no, Hm.eo_yes, Hm.to_no, Hm.to_yes, Hm.es_nil, Hm.es_cons, Hm.as_nil, Hm.as_io, Hm.as_ln, Hm.it_seq, Hm.it_scr, Hm.it_rng, Hm.it_enum, Hm.s_expr, Hm.s_ret, Hm.s_iff, Hm.s_app, Hm.s_put, Hm.s_pass, Hm.s_brk, Hm.s_cnt, Hm.ss_nil, Hm.ss_cons, Hm.kU_1, Hm.kU_2, Hm.kU_3, Hm.kB2_1, Hm.kB2_2, Hm.kB2_3, Hm.kB1_1, Hm.kB1_2, Hm.kB1_3, Hm.kI2_1, Hm.kI2_2, Hm.kI2_3, Hm.kI1_1, Hm.kI1_2, Hm.kI1_3, Hm.kS3_1, Hm.kS3_2, Hm.kS3_3, Hm.kS2_1, Hm.kS2_2, Hm.kS2_3, Hm.kS1_1, Hm.kS1_2, Hm.kS1_3, Hm.kC3_1, Hm.kC3_2, Hm.kC3_3, Hm.kC2'_1, Hm.kC2'_2, Hm.kC2_1, Hm.kC2_2, Hm.kC2_3, Hm.kC1_1, Hm.kC1_2, Hm.kC1_3, Hm.kTb_1, Hm.kTb_2, Hm.kTb_3, Hm.kIf_1, Hm.kIf_2, Hm.kIf_3, Hm.kIf_4, Hm.kTup_1, Hm.kTup_2, Hm.kTup_3, Hm.kLst_1, Hm.kLst_2, Hm.kLst_3, Hm.kCall_1, Hm.kCall_2, Hm.kCall_3, Hm.kX2_1, Hm.kX2_2, Hm.kX2_3, Hm.kX1_1, Hm.kX1_2, Hm.kX1_3, Hm.kL2_1, Hm.kL1_1, Hm.kL1_2, Hm.kL1_3, Hm.kLr_1, Hm.kLr_2, Hm.kLr_3, Hm.kOwn_1, Hm.kOwn_2, Hm.kOwn_3, Hm.kAn_1, Hm.kAn_2, Hm.kAn_3, Hm.kAn_4, Hm.kOr_1, Hm.kOr_2, Hm.kOr_3, Hm.kOr_4, Hm.kNt_1, Hm.kNt_2, Hm.kNt_3, Hm.kTr'_1, Hm.kTr'_2, Hm.kTr_1, Hm.kTr_2, Hm.kTr_3, Hm.kAnV_1, Hm.kAnV_2, Hm.kAnV_3, Hm.kAnV_4, Hm.kOrV_1, Hm.kOrV_2, Hm.kOrV_3, Hm.kOrV_4, Hm.kVl_1, Hm.kVl_2, Hm.kVl_3, Hm.kEo_1, Hm.kEo_2, Hm.kEo_3, Hm.kEs2_1, Hm.kEs2_2, Hm.kEs2_3, Hm.kEs1_1, Hm.kEs1_2, Hm.kEs1_3, Hm.kAs2_1, Hm.kAs2_2, Hm.kAs2_3, Hm.kAs1_1, Hm.kAs1_2, Hm.kAs1_3, Hm.kW_1, Hm.kW_2, Hm.kSq_1, Hm.kSq_2, Hm.kSq_3, Hm.kScr_1, Hm.kScr_2, Hm.kScr_3, Hm.kRg_1, Hm.kRg_2, Hm.kRg_3, Hm.kEn_1, Hm.kEn_2, Hm.kEn_3, Hm.kSet_1, Hm.kSet_2, Hm.kSet_3, Hm.kExp_1, Hm.kExp_2, Hm.kExp_3, Hm.kRet_1, Hm.kRet_2, Hm.kRet_3, Hm.kIff_1, Hm.kIff_2, Hm.kIff_3, Hm.kIff_4, Hm.kAp2_1, Hm.kAp1_1, Hm.kAp1_2, Hm.kAp1_3, Hm.kAp_1, Hm.kPl_1, Hm.kPl_2, Hm.kPd_1, Hm.kPd_2, Hm.kPk_1, Hm.kPk_2, Hm.kP3_1, Hm.kP3_2, Hm.kP2_1, Hm.kP2_2, Hm.kP2_3, Hm.kP1_1, Hm.kP1_2, Hm.kP1_3, Hm.kFor_1, Hm.kFor_2, Hm.kFor_3, Hm.kSeq_1, Hm.kSeq_2, Hm.kSeq_3, Hm.kSeq_4, Hm.kSeq_5, Hm.kSeq_6, Hm.kOp_s, Hm.kOp_n, Hm.kV_1, Hm.kMv_1, Hm.kSv_1, Hm.cr_1, Hm.cr_2, Hm.add_i, Hm.sub_i, Hm.mul_r, Hm.mul_l, Hm.mod_i, Hm.fdiv_i, Hm.lt_i, Hm.le_i, Hm.gt_i, Hm.ge_i, Hm.eq_i, Hm.eq_b, Hm.eq_s, Hm.ne_i, Hm.ne_b, Hm.min_i, Hm.max_i, Hm.isN_, Hm.notN_, Hm.neg_i, Hm.abs_i, Hm.int_i, Hm.int_b, Hm.len_l, Hm.len_t, Hm.ix_l, Hm.ix_t, Hm.tru_b, Hm.tru_i, Hm.own_i, Hm.ownV_v, Hm.lst_, Hm.tup_, Hm.sz_, Hm.join_s, Hm.join_n, Hm.at_0, Hm.at_1, Hm.at_2, Hm.at_3, Hm.at_4, Hm.at_5, Hm.at_6, Hm.at_7, Hm.at_8, Hm.at_9, Hm.at_10, Hm.at_11, Hm.at_12, Hm.at_13, Hm.at_14, Hm.at_15, Hm.at_16, Hm.at_17, Hm.at_18, Hm.at_19, Hm.at_20, Hm.at_21, Hm.at_22, Hm.at_23, Hm.at_24, Hm.at_25, Hm.ix5_0, Hm.ix5_1, Hm.ix5_2, Hm.ix5_3, Hm.ix5_4, Hm.pow_18, Hm.pow_39, Hm.pow_40, held, D.isC, isCs, E.pu, D.isNon, Cn.d, List.length_cons, List.length_nil, List.getElem?_cons_zero, List.getElem?_cons_succ, List.getElem?_nil, List.set_cons_zero, List.set_cons_succ, List.map_cons, List.map_nil, Option.map_some, Option.map_none, decide_eq_true_eq, Bool.true_and, Bool.and_true, Bool.false_and, Bool.and_false, Bool.not_true, Bool.not_false, Bool.or_true, Bool.true_or, Bool.or_false, Bool.false_or, or_true, true_or, or_false, false_or, and_true, true_and, Bool.false_eq_true, reduceCtorEq, not_true_eq_false, not_false_eq_true, Nat.reduceAdd, Nat.reduceLT, Nat.zero_add, eq_self, decide_true, decide_false, ↓reduceIte, Option.isSome_some, Option.isSome_none, ne_eq, Int.reduceNeg, Int.reducePow, Int.reduceLT, Int.reduceLE, Int.reduceEq, Int.reduceSub, Int.reduceAdd, Int.reduceMul, Nat.reducePow, Nat.reduceLeDiff]
      exact ⟨_, rfl⟩
    obtain ⟨v2, e⟩ := e
    rw [e]
    exact ih _ _ _ _ _
theorem store (n : Nat) (ns : List Int) (hl : ns.length ≤ 63) : ∃ s, F (n + 1) 2 [.scr ns] = .ok s [none] ∧ St s := by
  rw [cl2, Df.run_eq _ _ _ rfl]
  show ∃ s, (Ss.go (F n) [] b__law_store [some (.scr ns), none, none, none, none]).toCR d__law_store = .ok s [none] ∧ St s
  obtain ⟨x, e1⟩ := store_lc n ns (some (.scr ns)) none none none none [] (by simp; omega)
  obtain ⟨v, y, e2⟩ := store_for n ns (some (.scr ns)) (some (.lst false (ns.map .int))) none x 7
  simp only [b_store_for] at e2
  rw [List.nil_append] at e1
  have w1 : wipeE [some (D.scr ns), none, none, none, none] [4] = [some (D.scr ns), none, none, none, none] := rfl
  have hc : isCs (ns.map D.int) = true := cells_isC ns
  have hcl : D.clr (.lst true (ns.map .int)) = .lst false (ns.map .int) := by rw [D.clr, clrs_of _ hc]
  have hi : ∀ o, D.iter (.lst o (ns.map .int)) = some (ns.map .int) := fun _ => rfl
  have hmm : ((ns.map D.int).map fun x => [x]) = ns.map fun x => [D.int x] := by rw [List.map_map]; rfl
  simp only [b__law_store, w1, e1, e2, hcl, hi, hmm, hc, Hm.s_set, Hm.s_for, Hm.as_c, Hm.as_g, Hm.as_v, Hm.as_mv, Hm.as_u, Hm.as_b, Hm.as_ix, Hm.as_sl, Hm.as_ch, Hm.as_tb, Hm.as_ife, Hm.as_tup, Hm.as_lst, Hm.as_call, Hm.as_idx, Hm.as_lc, Hm.as_dE, Hm.as_sv, Hm.as_lr, Hm.go_ch, List.contains_nil, List.contains_cons, Nat.reduceBEq, List.any_cons, List.any_nil, beq_self_eq_true, Hm.go_c, Hm.go_g, Hm.go_v, Hm.go_mv, Hm.go_sv, Hm.go_u, Hm.go_b, Hm.go_ix, Hm.go_sl, Hm.go_tb, Hm.go_ife, Hm.go_tup, Hm.go_lst, Hm.go_call, Hm.go_idx, Hm.go_lc, Hm.go_dE, Hm.go_lr, Hm.tst_an, Hm.tst_or, Hm.tst_nt, Hm.tst_one, Hm.tst_e, Hm.val_an, Hm.val_or, Hm.val_nt, Hm.val_one, Hm.val_e, Hm.eo_no, Hm.eo_yes, Hm.to_no, Hm.to_yes, Hm.es_nil, Hm.es_cons, Hm.as_nil, Hm.as_io, Hm.as_ln, Hm.it_seq, Hm.it_scr, Hm.it_rng, Hm.it_enum, Hm.s_expr, Hm.s_ret, Hm.s_iff, Hm.s_app, Hm.s_put, Hm.s_pass, Hm.s_brk, Hm.s_cnt, Hm.ss_nil, Hm.ss_cons, Hm.kU_1, Hm.kU_2, Hm.kU_3, Hm.kB2_1, Hm.kB2_2, Hm.kB2_3, Hm.kB1_1, Hm.kB1_2, Hm.kB1_3, Hm.kI2_1, Hm.kI2_2, Hm.kI2_3, Hm.kI1_1, Hm.kI1_2, Hm.kI1_3, Hm.kS3_1, Hm.kS3_2, Hm.kS3_3, Hm.kS2_1, Hm.kS2_2, Hm.kS2_3, Hm.kS1_1, Hm.kS1_2, Hm.kS1_3, Hm.kC3_1, Hm.kC3_2, Hm.kC3_3, Hm.kC2'_1, Hm.kC2'_2, Hm.kC2_1, Hm.kC2_2, Hm.kC2_3, Hm.kC1_1, Hm.kC1_2, Hm.kC1_3, Hm.kTb_1, Hm.kTb_2, Hm.kTb_3, Hm.kIf_1, Hm.kIf_2, Hm.kIf_3, Hm.kIf_4, Hm.kTup_1, Hm.kTup_2, Hm.kTup_3, Hm.kLst_1, Hm.kLst_2, Hm.kLst_3, Hm.kCall_1, Hm.kCall_2, Hm.kCall_3, Hm.kX2_1, Hm.kX2_2, Hm.kX2_3, Hm.kX1_1, Hm.kX1_2, Hm.kX1_3, Hm.kL2_1, Hm.kL1_1, Hm.kL1_2, Hm.kL1_3, Hm.kLr_1, Hm.kLr_2, Hm.kLr_3, Hm.kOwn_1, Hm.kOwn_2, Hm.kOwn_3, Hm.kAn_1, Hm.kAn_2, Hm.kAn_3, Hm.kAn_4, Hm.kOr_1, Hm.kOr_2, Hm.kOr_3, Hm.kOr_4, Hm.kNt_1, Hm.kNt_2, Hm.kNt_3, Hm.kTr'_1, Hm.kTr'_2, Hm.kTr_1, Hm.kTr_2, Hm.kTr_3, Hm.kAnV_1, Hm.kAnV_2, Hm.kAnV_3, Hm.kAnV_4, Hm.kOrV_1, Hm.kOrV_2, Hm.kOrV_3, Hm.kOrV_4, Hm.kVl_1, Hm.kVl_2, Hm.kVl_3, Hm.kEo_1, Hm.kEo_2, Hm.kEo_3, Hm.kEs2_1, Hm.kEs2_2, Hm.kEs2_3, Hm.kEs1_1, Hm.kEs1_2, Hm.kEs1_3, Hm.kAs2_1, Hm.kAs2_2, Hm.kAs2_3, Hm.kAs1_1, Hm.kAs1_2, Hm.kAs1_3, Hm.kW_1, Hm.kW_2, Hm.kSq_1, Hm.kSq_2, Hm.kSq_3, Hm.kScr_1, Hm.kScr_2, Hm.kScr_3, Hm.kRg_1, Hm.kRg_2, Hm.kRg_3, Hm.kEn_1, Hm.kEn_2, Hm.kEn_3, Hm.kSet_1, Hm.kSet_2, Hm.kSet_3, Hm.kExp_1, Hm.kExp_2, Hm.kExp_3, Hm.kRet_1, Hm.kRet_2, Hm.kRet_3, Hm.kIff_1, Hm.kIff_2, Hm.kIff_3, Hm.kIff_4, Hm.kAp2_1, Hm.kAp1_1, Hm.kAp1_2, Hm.kAp1_3, Hm.kAp_1, Hm.kPl_1, Hm.kPl_2, Hm.kPd_1, Hm.kPd_2, Hm.kPk_1, Hm.kPk_2, Hm.kP3_1, Hm.kP3_2, Hm.kP2_1, Hm.kP2_2, Hm.kP2_3, Hm.kP1_1, Hm.kP1_2, Hm.kP1_3, Hm.kFor_1, Hm.kFor_2, Hm.kFor_3, Hm.kSeq_1, Hm.kSeq_2, Hm.kSeq_3, Hm.kSeq_4, Hm.kSeq_5, Hm.kSeq_6, Hm.kOp_s, Hm.kOp_n, Hm.kV_1, Hm.kMv_1, Hm.kSv_1, Hm.cr_1, Hm.cr_2, Hm.add_i, Hm.sub_i, Hm.mul_r, Hm.mul_l, Hm.mod_i, Hm.fdiv_i, Hm.lt_i, Hm.le_i, Hm.gt_i, Hm.ge_i, Hm.eq_i, Hm.eq_b, Hm.eq_s, Hm.ne_i, Hm.ne_b, Hm.min_i, Hm.max_i, Hm.isN_, Hm.notN_, Hm.neg_i, Hm.abs_i, Hm.int_i, Hm.int_b, Hm.len_l, Hm.len_t, Hm.ix_l, Hm.ix_t, Hm.tru_b, Hm.tru_i, Hm.own_i, Hm.ownV_v, Hm.lst_, Hm.tup_, Hm.sz_, Hm.join_s, Hm.join_n, Hm.at_0, Hm.at_1, Hm.at_2, Hm.at_3, Hm.at_4, Hm.at_5, Hm.at_6, Hm.at_7, Hm.at_8, Hm.at_9, Hm.at_10, Hm.at_11, Hm.at_12, Hm.at_13, Hm.at_14, Hm.at_15, Hm.at_16, Hm.at_17, Hm.at_18, Hm.at_19, Hm.at_20, Hm.at_21, Hm.at_22, Hm.at_23, Hm.at_24, Hm.at_25, Hm.ix5_0, Hm.ix5_1, Hm.ix5_2, Hm.ix5_3, Hm.ix5_4, Hm.pow_18, Hm.pow_39, Hm.pow_40, held, D.isC, isCs, E.pu, D.isNon, Cn.d, List.length_cons, List.length_nil, List.getElem?_cons_zero, List.getElem?_cons_succ, List.getElem?_nil, List.set_cons_zero, List.set_cons_succ, List.map_cons, List.map_nil, Option.map_some, Option.map_none, decide_eq_true_eq, Bool.true_and, Bool.and_true, Bool.false_and, Bool.and_false, Bool.not_true, Bool.not_false, Bool.or_true, Bool.true_or, Bool.or_false, Bool.false_or, or_true, true_or, or_false, false_or, and_true, true_and, Bool.false_eq_true, reduceCtorEq, not_true_eq_false, not_false_eq_true, Nat.reduceAdd, Nat.reduceLT, Nat.zero_add, eq_self, decide_true, decide_false, ↓reduceIte, Option.isSome_some, Option.isSome_none, ne_eq, Int.reduceNeg, Int.reducePow, Int.reduceLT, Int.reduceLE, Int.reduceEq, Int.reduceSub, Int.reduceAdd, Int.reduceMul, Nat.reducePow, Nat.reduceLeDiff]
  exact ⟨_, rfl, .mk _ _ _ _ _ _ (Int.le_refl _)⟩
/-- one of a list of whole numbers -/
theorem pickI (n : Nat) (s : D) (h : St s) (o : Bool) (zs : List Int) (h0 : 0 < zs.length) (hl : zs.length < 1073741824) : ∃ z s', z ∈ zs ∧ St s' ∧ ∀ (r : Ev), callR (F (n + 3)) 4 [.io 0, .d (.lst o (zs.map .int))] (some s :: r) = .ok (.int z, false) (some s' :: r) := by
  obtain ⟨d, s', e1, e2, e3⟩ := pick n s h o (zs.map .int) (cells_isC _) (by rw [List.length_map]; exact h0) (by rw [List.length_map]; exact hl)
  obtain ⟨z, hz, rfl⟩ := List.mem_map.mp e3
  refine ⟨z, s', hz, e2, fun r => ?_⟩
  rw [callR_ok (as := [.io 0, .d (.lst o (zs.map .int))]) (ds := [s, .lst o (zs.map .int)]) rfl (by show ([0] : List Nat).Nodup; decide) e1 rfl]
  rfl
theorem cl9 (n : Nat) (ds : List D) : F (n + 1) 9 ds = d__law_any_height.run (F n) ds := rfl
theorem any_height (n : Nat) (s : D) (h : St s) : ∃ t s', F (n + 4) 9 [s] = .ok (.int t) [some s'] ∧ St s' := by
  rw [cl9, Df.run_eq _ _ _ rfl]
  show ∃ t s', (Ss.go (F (n + 3)) [0] b__law_any_height [some s, none]).toCR d__law_any_height = .ok (.int t) [some s'] ∧ St s'
  have c1 := call_take (n := n + 1) h (m := 4) (by decide) [none]
  have s1 := st_ts (n := n + 1) h (m := 4) (by decide)
  by_cases h0 : tk (n + 1) s 4 = 0
  · obtain ⟨z, s', _, e2, e3⟩ := pickI n _ s1 true [0, 1, -1, 9, 10, -10, 9999, -9999, 9998, -9998, 100, 999, 1000] (by decide) (by decide)
    simp only [List.map_cons, List.map_nil] at e3
    simp only [b__law_any_height, c1, h0, e3, Hm.s_set, Hm.s_for, Hm.as_c, Hm.as_g, Hm.as_v, Hm.as_mv, Hm.as_u, Hm.as_b, Hm.as_ix, Hm.as_sl, Hm.as_ch, Hm.as_tb, Hm.as_ife, Hm.as_tup, Hm.as_lst, Hm.as_call, Hm.as_idx, Hm.as_lc, Hm.as_dE, Hm.as_sv, Hm.as_lr, Hm.go_ch, List.contains_nil, List.contains_cons, Nat.reduceBEq, List.any_cons, List.any_nil, beq_self_eq_true, Hm.go_c, Hm.go_g, Hm.go_v, Hm.go_mv, Hm.go_sv, Hm.go_u, Hm.go_b, Hm.go_ix, Hm.go_sl, Hm.go_tb, Hm.go_ife, Hm.go_tup, Hm.go_lst, Hm.go_call, Hm.go_idx, Hm.go_lc, Hm.go_dE, Hm.go_lr, Hm.tst_an, Hm.tst_or, Hm.tst_nt, Hm.tst_one, Hm.tst_e, Hm.val_an, Hm.val_or, Hm.val_nt, Hm.val_one, Hm.val_e, Hm.eo_no, Hm.eo_yes, Hm.to_no, Hm.to_yes, Hm.es_nil, Hm.es_cons, Hm.as_nil, Hm.as_io, Hm.as_ln, Hm.it_seq, Hm.it_scr, Hm.it_rng, Hm.it_enum, Hm.s_expr, Hm.s_ret, Hm.s_iff, Hm.s_app, Hm.s_put, Hm.s_pass, Hm.s_brk, Hm.s_cnt, Hm.ss_nil, Hm.ss_cons, Hm.kU_1, Hm.kU_2, Hm.kU_3, Hm.kB2_1, Hm.kB2_2, Hm.kB2_3, Hm.kB1_1, Hm.kB1_2, Hm.kB1_3, Hm.kI2_1, Hm.kI2_2, Hm.kI2_3, Hm.kI1_1, Hm.kI1_2, Hm.kI1_3, Hm.kS3_1, Hm.kS3_2, Hm.kS3_3, Hm.kS2_1, Hm.kS2_2, Hm.kS2_3, Hm.kS1_1, Hm.kS1_2, Hm.kS1_3, Hm.kC3_1, Hm.kC3_2, Hm.kC3_3, Hm.kC2'_1, Hm.kC2'_2, Hm.kC2_1, Hm.kC2_2, Hm.kC2_3, Hm.kC1_1, Hm.kC1_2, Hm.kC1_3, Hm.kTb_1, Hm.kTb_2, Hm.kTb_3, Hm.kIf_1, Hm.kIf_2, Hm.kIf_3, Hm.kIf_4, Hm.kTup_1, Hm.kTup_2, Hm.kTup_3, Hm.kLst_1, Hm.kLst_2, Hm.kLst_3, Hm.kCall_1, Hm.kCall_2, Hm.kCall_3, Hm.kX2_1, Hm.kX2_2, Hm.kX2_3, Hm.kX1_1, Hm.kX1_2, Hm.kX1_3, Hm.kL2_1, Hm.kL1_1, Hm.kL1_2, Hm.kL1_3, Hm.kLr_1, Hm.kLr_2, Hm.kLr_3, Hm.kOwn_1, Hm.kOwn_2, Hm.kOwn_3, Hm.kAn_1, Hm.kAn_2, Hm.kAn_3, Hm.kAn_4, Hm.kOr_1, Hm.kOr_2, Hm.kOr_3, Hm.kOr_4, Hm.kNt_1, Hm.kNt_2, Hm.kNt_3, Hm.kTr'_1, Hm.kTr'_2, Hm.kTr_1, Hm.kTr_2, Hm.kTr_3, Hm.kAnV_1, Hm.kAnV_2, Hm.kAnV_3, Hm.kAnV_4, Hm.kOrV_1, Hm.kOrV_2, Hm.kOrV_3, Hm.kOrV_4, Hm.kVl_1, Hm.kVl_2, Hm.kVl_3, Hm.kEo_1, Hm.kEo_2, Hm.kEo_3, Hm.kEs2_1, Hm.kEs2_2, Hm.kEs2_3, Hm.kEs1_1, Hm.kEs1_2, Hm.kEs1_3, Hm.kAs2_1, Hm.kAs2_2, Hm.kAs2_3, Hm.kAs1_1, Hm.kAs1_2, Hm.kAs1_3, Hm.kW_1, Hm.kW_2, Hm.kSq_1, Hm.kSq_2, Hm.kSq_3, Hm.kScr_1, Hm.kScr_2, Hm.kScr_3, Hm.kRg_1, Hm.kRg_2, Hm.kRg_3, Hm.kEn_1, Hm.kEn_2, Hm.kEn_3, Hm.kSet_1, Hm.kSet_2, Hm.kSet_3, Hm.kExp_1, Hm.kExp_2, Hm.kExp_3, Hm.kRet_1, Hm.kRet_2, Hm.kRet_3, Hm.kIff_1, Hm.kIff_2, Hm.kIff_3, Hm.kIff_4, Hm.kAp2_1, Hm.kAp1_1, Hm.kAp1_2, Hm.kAp1_3, Hm.kAp_1, Hm.kPl_1, Hm.kPl_2, Hm.kPd_1, Hm.kPd_2, Hm.kPk_1, Hm.kPk_2, Hm.kP3_1, Hm.kP3_2, Hm.kP2_1, Hm.kP2_2, Hm.kP2_3, Hm.kP1_1, Hm.kP1_2, Hm.kP1_3, Hm.kFor_1, Hm.kFor_2, Hm.kFor_3, Hm.kSeq_1, Hm.kSeq_2, Hm.kSeq_3, Hm.kSeq_4, Hm.kSeq_5, Hm.kSeq_6, Hm.kOp_s, Hm.kOp_n, Hm.kV_1, Hm.kMv_1, Hm.kSv_1, Hm.cr_1, Hm.cr_2, Hm.add_i, Hm.sub_i, Hm.mul_r, Hm.mul_l, Hm.mod_i, Hm.fdiv_i, Hm.lt_i, Hm.le_i, Hm.gt_i, Hm.ge_i, Hm.eq_i, Hm.eq_b, Hm.eq_s, Hm.ne_i, Hm.ne_b, Hm.min_i, Hm.max_i, Hm.isN_, Hm.notN_, Hm.neg_i, Hm.abs_i, Hm.int_i, Hm.int_b, Hm.len_l, Hm.len_t, Hm.ix_l, Hm.ix_t, Hm.tru_b, Hm.tru_i, Hm.own_i, Hm.ownV_v, Hm.lst_, Hm.tup_, Hm.sz_, Hm.join_s, Hm.join_n, Hm.at_0, Hm.at_1, Hm.at_2, Hm.at_3, Hm.at_4, Hm.at_5, Hm.at_6, Hm.at_7, Hm.at_8, Hm.at_9, Hm.at_10, Hm.at_11, Hm.at_12, Hm.at_13, Hm.at_14, Hm.at_15, Hm.at_16, Hm.at_17, Hm.at_18, Hm.at_19, Hm.at_20, Hm.at_21, Hm.at_22, Hm.at_23, Hm.at_24, Hm.at_25, Hm.ix5_0, Hm.ix5_1, Hm.ix5_2, Hm.ix5_3, Hm.ix5_4, Hm.pow_18, Hm.pow_39, Hm.pow_40, held, D.isC, isCs, E.pu, D.isNon, Cn.d, List.length_cons, List.length_nil, List.getElem?_cons_zero, List.getElem?_cons_succ, List.getElem?_nil, List.set_cons_zero, List.set_cons_succ, List.map_cons, List.map_nil, Option.map_some, Option.map_none, decide_eq_true_eq, Bool.true_and, Bool.and_true, Bool.false_and, Bool.and_false, Bool.not_true, Bool.not_false, Bool.or_true, Bool.true_or, Bool.or_false, Bool.false_or, or_true, true_or, or_false, false_or, and_true, true_and, Bool.false_eq_true, reduceCtorEq, not_true_eq_false, not_false_eq_true, Nat.reduceAdd, Nat.reduceLT, Nat.zero_add, eq_self, decide_true, decide_false, ↓reduceIte, Option.isSome_some, Option.isSome_none, ne_eq, Int.reduceNeg, Int.reducePow, Int.reduceLT, Int.reduceLE, Int.reduceEq, Int.reduceSub, Int.reduceAdd, Int.reduceMul, Nat.reducePow, Nat.reduceLeDiff]
    exact ⟨_, _, rfl, e2⟩
  · by_cases h2 : tk (n + 1) s 4 = 1
    · have c2 := call_take (n := n + 1) s1 (m := 20) (by decide) [some (.int 1)]
      simp only [b__law_any_height, c1, h2, c2, Hm.s_set, Hm.s_for, Hm.as_c, Hm.as_g, Hm.as_v, Hm.as_mv, Hm.as_u, Hm.as_b, Hm.as_ix, Hm.as_sl, Hm.as_ch, Hm.as_tb, Hm.as_ife, Hm.as_tup, Hm.as_lst, Hm.as_call, Hm.as_idx, Hm.as_lc, Hm.as_dE, Hm.as_sv, Hm.as_lr, Hm.go_ch, List.contains_nil, List.contains_cons, Nat.reduceBEq, List.any_cons, List.any_nil, beq_self_eq_true, Hm.go_c, Hm.go_g, Hm.go_v, Hm.go_mv, Hm.go_sv, Hm.go_u, Hm.go_b, Hm.go_ix, Hm.go_sl, Hm.go_tb, Hm.go_ife, Hm.go_tup, Hm.go_lst, Hm.go_call, Hm.go_idx, Hm.go_lc, Hm.go_dE, Hm.go_lr, Hm.tst_an, Hm.tst_or, Hm.tst_nt, Hm.tst_one, Hm.tst_e, Hm.val_an, Hm.val_or, Hm.val_nt, Hm.val_one, Hm.val_e, Hm.eo_no, Hm.eo_yes, Hm.to_no, Hm.to_yes, Hm.es_nil, Hm.es_cons, Hm.as_nil, Hm.as_io, Hm.as_ln, Hm.it_seq, Hm.it_scr, Hm.it_rng, Hm.it_enum, Hm.s_expr, Hm.s_ret, Hm.s_iff, Hm.s_app, Hm.s_put, Hm.s_pass, Hm.s_brk, Hm.s_cnt, Hm.ss_nil, Hm.ss_cons, Hm.kU_1, Hm.kU_2, Hm.kU_3, Hm.kB2_1, Hm.kB2_2, Hm.kB2_3, Hm.kB1_1, Hm.kB1_2, Hm.kB1_3, Hm.kI2_1, Hm.kI2_2, Hm.kI2_3, Hm.kI1_1, Hm.kI1_2, Hm.kI1_3, Hm.kS3_1, Hm.kS3_2, Hm.kS3_3, Hm.kS2_1, Hm.kS2_2, Hm.kS2_3, Hm.kS1_1, Hm.kS1_2, Hm.kS1_3, Hm.kC3_1, Hm.kC3_2, Hm.kC3_3, Hm.kC2'_1, Hm.kC2'_2, Hm.kC2_1, Hm.kC2_2, Hm.kC2_3, Hm.kC1_1, Hm.kC1_2, Hm.kC1_3, Hm.kTb_1, Hm.kTb_2, Hm.kTb_3, Hm.kIf_1, Hm.kIf_2, Hm.kIf_3, Hm.kIf_4, Hm.kTup_1, Hm.kTup_2, Hm.kTup_3, Hm.kLst_1, Hm.kLst_2, Hm.kLst_3, Hm.kCall_1, Hm.kCall_2, Hm.kCall_3, Hm.kX2_1, Hm.kX2_2, Hm.kX2_3, Hm.kX1_1, Hm.kX1_2, Hm.kX1_3, Hm.kL2_1, Hm.kL1_1, Hm.kL1_2, Hm.kL1_3, Hm.kLr_1, Hm.kLr_2, Hm.kLr_3, Hm.kOwn_1, Hm.kOwn_2, Hm.kOwn_3, Hm.kAn_1, Hm.kAn_2, Hm.kAn_3, Hm.kAn_4, Hm.kOr_1, Hm.kOr_2, Hm.kOr_3, Hm.kOr_4, Hm.kNt_1, Hm.kNt_2, Hm.kNt_3, Hm.kTr'_1, Hm.kTr'_2, Hm.kTr_1, Hm.kTr_2, Hm.kTr_3, Hm.kAnV_1, Hm.kAnV_2, Hm.kAnV_3, Hm.kAnV_4, Hm.kOrV_1, Hm.kOrV_2, Hm.kOrV_3, Hm.kOrV_4, Hm.kVl_1, Hm.kVl_2, Hm.kVl_3, Hm.kEo_1, Hm.kEo_2, Hm.kEo_3, Hm.kEs2_1, Hm.kEs2_2, Hm.kEs2_3, Hm.kEs1_1, Hm.kEs1_2, Hm.kEs1_3, Hm.kAs2_1, Hm.kAs2_2, Hm.kAs2_3, Hm.kAs1_1, Hm.kAs1_2, Hm.kAs1_3, Hm.kW_1, Hm.kW_2, Hm.kSq_1, Hm.kSq_2, Hm.kSq_3, Hm.kScr_1, Hm.kScr_2, Hm.kScr_3, Hm.kRg_1, Hm.kRg_2, Hm.kRg_3, Hm.kEn_1, Hm.kEn_2, Hm.kEn_3, Hm.kSet_1, Hm.kSet_2, Hm.kSet_3, Hm.kExp_1, Hm.kExp_2, Hm.kExp_3, Hm.kRet_1, Hm.kRet_2, Hm.kRet_3, Hm.kIff_1, Hm.kIff_2, Hm.kIff_3, Hm.kIff_4, Hm.kAp2_1, Hm.kAp1_1, Hm.kAp1_2, Hm.kAp1_3, Hm.kAp_1, Hm.kPl_1, Hm.kPl_2, Hm.kPd_1, Hm.kPd_2, Hm.kPk_1, Hm.kPk_2, Hm.kP3_1, Hm.kP3_2, Hm.kP2_1, Hm.kP2_2, Hm.kP2_3, Hm.kP1_1, Hm.kP1_2, Hm.kP1_3, Hm.kFor_1, Hm.kFor_2, Hm.kFor_3, Hm.kSeq_1, Hm.kSeq_2, Hm.kSeq_3, Hm.kSeq_4, Hm.kSeq_5, Hm.kSeq_6, Hm.kOp_s, Hm.kOp_n, Hm.kV_1, Hm.kMv_1, Hm.kSv_1, Hm.cr_1, Hm.cr_2, Hm.add_i, Hm.sub_i, Hm.mul_r, Hm.mul_l, Hm.mod_i, Hm.fdiv_i, Hm.lt_i, Hm.le_i, Hm.gt_i, Hm.ge_i, Hm.eq_i, Hm.eq_b, Hm.eq_s, Hm.ne_i, Hm.ne_b, Hm.min_i, Hm.max_i, Hm.isN_, Hm.notN_, Hm.neg_i, Hm.abs_i, Hm.int_i, Hm.int_b, Hm.len_l, Hm.len_t, Hm.ix_l, Hm.ix_t, Hm.tru_b, Hm.tru_i, Hm.own_i, Hm.ownV_v, Hm.lst_, Hm.tup_, Hm.sz_, Hm.join_s, Hm.join_n, Hm.at_0, Hm.at_1, Hm.at_2, Hm.at_3, Hm.at_4, Hm.at_5, Hm.at_6, Hm.at_7, Hm.at_8, Hm.at_9, Hm.at_10, Hm.at_11, Hm.at_12, Hm.at_13, Hm.at_14, Hm.at_15, Hm.at_16, Hm.at_17, Hm.at_18, Hm.at_19, Hm.at_20, Hm.at_21, Hm.at_22, Hm.at_23, Hm.at_24, Hm.at_25, Hm.ix5_0, Hm.ix5_1, Hm.ix5_2, Hm.ix5_3, Hm.ix5_4, Hm.pow_18, Hm.pow_39, Hm.pow_40, held, D.isC, isCs, E.pu, D.isNon, Cn.d, List.length_cons, List.length_nil, List.getElem?_cons_zero, List.getElem?_cons_succ, List.getElem?_nil, List.set_cons_zero, List.set_cons_succ, List.map_cons, List.map_nil, Option.map_some, Option.map_none, decide_eq_true_eq, Bool.true_and, Bool.and_true, Bool.false_and, Bool.and_false, Bool.not_true, Bool.not_false, Bool.or_true, Bool.true_or, Bool.or_false, Bool.false_or, or_true, true_or, or_false, false_or, and_true, true_and, Bool.false_eq_true, reduceCtorEq, not_true_eq_false, not_false_eq_true, Nat.reduceAdd, Nat.reduceLT, Nat.zero_add, eq_self, decide_true, decide_false, ↓reduceIte, Option.isSome_some, Option.isSome_none, ne_eq, Int.reduceNeg, Int.reducePow, Int.reduceLT, Int.reduceLE, Int.reduceEq, Int.reduceSub, Int.reduceAdd, Int.reduceMul, Nat.reducePow, Nat.reduceLeDiff]
      exact ⟨_, _, rfl, st_ts (n := n + 1) s1 (m := 20) (by decide)⟩
    · have c2 := call_take (n := n + 1) s1 (m := 19999) (by decide) [some (.int (tk (n + 1) s 4))]
      simp only [b__law_any_height, c1, h0, h2, c2, Hm.s_set, Hm.s_for, Hm.as_c, Hm.as_g, Hm.as_v, Hm.as_mv, Hm.as_u, Hm.as_b, Hm.as_ix, Hm.as_sl, Hm.as_ch, Hm.as_tb, Hm.as_ife, Hm.as_tup, Hm.as_lst, Hm.as_call, Hm.as_idx, Hm.as_lc, Hm.as_dE, Hm.as_sv, Hm.as_lr, Hm.go_ch, List.contains_nil, List.contains_cons, Nat.reduceBEq, List.any_cons, List.any_nil, beq_self_eq_true, Hm.go_c, Hm.go_g, Hm.go_v, Hm.go_mv, Hm.go_sv, Hm.go_u, Hm.go_b, Hm.go_ix, Hm.go_sl, Hm.go_tb, Hm.go_ife, Hm.go_tup, Hm.go_lst, Hm.go_call, Hm.go_idx, Hm.go_lc, Hm.go_dE, Hm.go_lr, Hm.tst_an, Hm.tst_or, Hm.tst_nt, Hm.tst_one, Hm.tst_e, Hm.val_an, Hm.val_or, Hm.val_nt, Hm.val_one, Hm.val_e, Hm.eo_no, Hm.eo_yes, Hm.to_no, Hm.to_yes, Hm.es_nil, Hm.es_cons, Hm.as_nil, Hm.as_io, Hm.as_ln, Hm.it_seq, Hm.it_scr, Hm.it_rng, Hm.it_enum, Hm.s_expr, Hm.s_ret, Hm.s_iff, Hm.s_app, Hm.s_put, Hm.s_pass, Hm.s_brk, Hm.s_cnt, Hm.ss_nil, Hm.ss_cons, Hm.kU_1, Hm.kU_2, Hm.kU_3, Hm.kB2_1, Hm.kB2_2, Hm.kB2_3, Hm.kB1_1, Hm.kB1_2, Hm.kB1_3, Hm.kI2_1, Hm.kI2_2, Hm.kI2_3, Hm.kI1_1, Hm.kI1_2, Hm.kI1_3, Hm.kS3_1, Hm.kS3_2, Hm.kS3_3, Hm.kS2_1, Hm.kS2_2, Hm.kS2_3, Hm.kS1_1, Hm.kS1_2, Hm.kS1_3, Hm.kC3_1, Hm.kC3_2, Hm.kC3_3, Hm.kC2'_1, Hm.kC2'_2, Hm.kC2_1, Hm.kC2_2, Hm.kC2_3, Hm.kC1_1, Hm.kC1_2, Hm.kC1_3, Hm.kTb_1, Hm.kTb_2, Hm.kTb_3, Hm.kIf_1, Hm.kIf_2, Hm.kIf_3, Hm.kIf_4, Hm.kTup_1, Hm.kTup_2, Hm.kTup_3, Hm.kLst_1, Hm.kLst_2, Hm.kLst_3, Hm.kCall_1, Hm.kCall_2, Hm.kCall_3, Hm.kX2_1, Hm.kX2_2, Hm.kX2_3, Hm.kX1_1, Hm.kX1_2, Hm.kX1_3, Hm.kL2_1, Hm.kL1_1, Hm.kL1_2, Hm.kL1_3, Hm.kLr_1, Hm.kLr_2, Hm.kLr_3, Hm.kOwn_1, Hm.kOwn_2, Hm.kOwn_3, Hm.kAn_1, Hm.kAn_2, Hm.kAn_3, Hm.kAn_4, Hm.kOr_1, Hm.kOr_2, Hm.kOr_3, Hm.kOr_4, Hm.kNt_1, Hm.kNt_2, Hm.kNt_3, Hm.kTr'_1, Hm.kTr'_2, Hm.kTr_1, Hm.kTr_2, Hm.kTr_3, Hm.kAnV_1, Hm.kAnV_2, Hm.kAnV_3, Hm.kAnV_4, Hm.kOrV_1, Hm.kOrV_2, Hm.kOrV_3, Hm.kOrV_4, Hm.kVl_1, Hm.kVl_2, Hm.kVl_3, Hm.kEo_1, Hm.kEo_2, Hm.kEo_3, Hm.kEs2_1, Hm.kEs2_2, Hm.kEs2_3, Hm.kEs1_1, Hm.kEs1_2, Hm.kEs1_3, Hm.kAs2_1, Hm.kAs2_2, Hm.kAs2_3, Hm.kAs1_1, Hm.kAs1_2, Hm.kAs1_3, Hm.kW_1, Hm.kW_2, Hm.kSq_1, Hm.kSq_2, Hm.kSq_3, Hm.kScr_1, Hm.kScr_2, Hm.kScr_3, Hm.kRg_1, Hm.kRg_2, Hm.kRg_3, Hm.kEn_1, Hm.kEn_2, Hm.kEn_3, Hm.kSet_1, Hm.kSet_2, Hm.kSet_3, Hm.kExp_1, Hm.kExp_2, Hm.kExp_3, Hm.kRet_1, Hm.kRet_2, Hm.kRet_3, Hm.kIff_1, Hm.kIff_2, Hm.kIff_3, Hm.kIff_4, Hm.kAp2_1, Hm.kAp1_1, Hm.kAp1_2, Hm.kAp1_3, Hm.kAp_1, Hm.kPl_1, Hm.kPl_2, Hm.kPd_1, Hm.kPd_2, Hm.kPk_1, Hm.kPk_2, Hm.kP3_1, Hm.kP3_2, Hm.kP2_1, Hm.kP2_2, Hm.kP2_3, Hm.kP1_1, Hm.kP1_2, Hm.kP1_3, Hm.kFor_1, Hm.kFor_2, Hm.kFor_3, Hm.kSeq_1, Hm.kSeq_2, Hm.kSeq_3, Hm.kSeq_4, Hm.kSeq_5, Hm.kSeq_6, Hm.kOp_s, Hm.kOp_n, Hm.kV_1, Hm.kMv_1, Hm.kSv_1, Hm.cr_1, Hm.cr_2, Hm.add_i, Hm.sub_i, Hm.mul_r, Hm.mul_l, Hm.mod_i, Hm.fdiv_i, Hm.lt_i, Hm.le_i, Hm.gt_i, Hm.ge_i, Hm.eq_i, Hm.eq_b, Hm.eq_s, Hm.ne_i, Hm.ne_b, Hm.min_i, Hm.max_i, Hm.isN_, Hm.notN_, Hm.neg_i, Hm.abs_i, Hm.int_i, Hm.int_b, Hm.len_l, Hm.len_t, Hm.ix_l, Hm.ix_t, Hm.tru_b, Hm.tru_i, Hm.own_i, Hm.ownV_v, Hm.lst_, Hm.tup_, Hm.sz_, Hm.join_s, Hm.join_n, Hm.at_0, Hm.at_1, Hm.at_2, Hm.at_3, Hm.at_4, Hm.at_5, Hm.at_6, Hm.at_7, Hm.at_8, Hm.at_9, Hm.at_10, Hm.at_11, Hm.at_12, Hm.at_13, Hm.at_14, Hm.at_15, Hm.at_16, Hm.at_17, Hm.at_18, Hm.at_19, Hm.at_20, Hm.at_21, Hm.at_22, Hm.at_23, Hm.at_24, Hm.at_25, Hm.ix5_0, Hm.ix5_1, Hm.ix5_2, Hm.ix5_3, Hm.ix5_4, Hm.pow_18, Hm.pow_39, Hm.pow_40, held, D.isC, isCs, E.pu, D.isNon, Cn.d, List.length_cons, List.length_nil, List.getElem?_cons_zero, List.getElem?_cons_succ, List.getElem?_nil, List.set_cons_zero, List.set_cons_succ, List.map_cons, List.map_nil, Option.map_some, Option.map_none, decide_eq_true_eq, Bool.true_and, Bool.and_true, Bool.false_and, Bool.and_false, Bool.not_true, Bool.not_false, Bool.or_true, Bool.true_or, Bool.or_false, Bool.false_or, or_true, true_or, or_false, false_or, and_true, true_and, Bool.false_eq_true, reduceCtorEq, not_true_eq_false, not_false_eq_true, Nat.reduceAdd, Nat.reduceLT, Nat.zero_add, eq_self, decide_true, decide_false, ↓reduceIte, Option.isSome_some, Option.isSome_none, ne_eq, Int.reduceNeg, Int.reducePow, Int.reduceLT, Int.reduceLE, Int.reduceEq, Int.reduceSub, Int.reduceAdd, Int.reduceMul, Nat.reducePow, Nat.reduceLeDiff]
      exact ⟨_, _, rfl, st_ts (n := n + 1) s1 (m := 19999) (by decide)⟩
/-! ### another order -/
theorem ixN_in {n : Nat} {i : Int} (h : 0 ≤ i) (h2 : i < n) : L2.ixN n i = some i.toNat := by unfold L2.ixN; rw [if_pos h, if_pos h2]
theorem atI_in {zs : List Int} {i : Int} (h : 0 ≤ i) (h2 : i < zs.length) : ∃ z, L2.atI (zs.map D.int) i = some (.int z) := by
  have h3 : i.toNat < zs.length := by omega
  refine ⟨zs[i.toNat], ?_⟩
  have q := atI_nat (xs := zs.map D.int) (j := i.toNat) (v := .int zs[i.toNat]) (by rw [List.getElem?_map, List.getElem?_eq_getElem h3]; rfl)
  rwa [Int.toNat_of_nonneg h] at q
def b_dis_for : Ss := .cons (.set 5 (.b .add (.v 4) (.call 3 (.cons (.io 0) (.cons (.b .sub (.u .len (.v 2)) (.v 4)) .nil)))))
  (.cons (.set 6 (.ix (.v 2) (.v 4)))
  (.cons (.put 2 (.v 4) (.ix (.v 2) (.v 5)))
  (.cons (.put 2 (.v 5) (.mv 6)) .nil)))
theorem dis_turn (n : Nat) (s : D) (h : St s) (zs : List Int) (hz : zs.length < 1073741824) (k : Int) (h0 : 0 ≤ k) (hk : k + 1 < zs.length) (x1 x3 x5 x6 : Option D) :
    ∃ (s' : D) (zs' : List Int) (y5 y6 : Option D), Ss.go (F (n + 2)) [0, 1] b_dis_for [some s, x1, some (.lst true (zs.map .int)), x3, some (.int k), x5, x6] = .nx [some s', x1, some (.lst true (zs'.map .int)), x3, some (.int k), y5, y6] ∧ St s' ∧ zs'.length = zs.length := by
  have hm : ((zs.map D.int).length : Int) - k < 1073741824 := by rw [List.length_map]; omega
  have c1 := call_take (n := n) h hm [x1, some (.lst true (zs.map .int)), x3, some (.int k), x5, x6]
  obtain ⟨e1, e2, e3, e4, e5⟩ := tk_eq (n := n) h hm
  have h2 := e4 (by rw [List.length_map]; omega)
  generalize ht : tk n s (((zs.map D.int).length : Int) - k) = t at *
  have hl : (zs.map D.int).length = zs.length := List.length_map ..
  rw [hl] at h2
  obtain ⟨a, ha⟩ := atI_in (zs := zs) h0 (by omega)
  obtain ⟨b, hb⟩ := atI_in (zs := zs) (i := k + t) (by omega) (by omega)
  have n1 : L2.ixN (zs.map D.int).length k = some k.toNat := ixN_in h0 (by omega)
  have n2 : L2.ixN ((zs.map D.int).set k.toNat (.int b)).length (k + t) = some (k + t).toNat := ixN_in (by omega) (by rw [List.length_set]; omega)
  refine ⟨ts n s (((zs.map D.int).length : Int) - k), (zs.set k.toNat b).set (k + t).toNat a, some (.int (k + t)), none, ?_, e2, by simp⟩
  rw [List.map_set, List.map_set]
  simp only [b_dis_for, c1, ha, hb, n1, n2, Hm.s_set, Hm.s_for, Hm.as_c, Hm.as_g, Hm.as_v, Hm.as_mv, Hm.as_u, Hm.as_b, Hm.as_ix, Hm.as_sl, Hm.as_ch, Hm.as_tb, Hm.as_ife, Hm.as_tup, Hm.as_lst, Hm.as_call, Hm.as_idx, Hm.as_lc, Hm.as_dE, Hm.as_sv, Hm.as_lr, Hm.go_ch, List.contains_nil, List.contains_cons, Nat.reduceBEq, List.any_cons, List.any_nil, beq_self_eq_true, Hm.go_c, Hm.go_g, Hm.go_v, Hm.go_mv, Hm.go_sv, Hm.go_u, Hm.go_b, Hm.go_ix, Hm.go_sl, Hm.go_tb, Hm.go_ife, Hm.go_tup, Hm.go_lst, Hm.go_call, Hm.go_idx, Hm.go_lc, Hm.go_dE, Hm.go_lr, Hm.tst_an, Hm.tst_or, Hm.tst_nt, Hm.tst_one, Hm.tst_e, Hm.val_an, Hm.val_or, Hm.val_nt, Hm.val_one, Hm.val_e, Hm.eo_no, Hm.eo_yes, Hm.to_no, Hm.to_yes, Hm.es_nil, Hm.es_cons, Hm.as_nil, Hm.as_io, Hm.as_ln, Hm.it_seq, Hm.it_scr, Hm.it_rng, Hm.it_enum, Hm.s_expr, Hm.s_ret, Hm.s_iff, Hm.s_app, Hm.s_put, Hm.s_pass, Hm.s_brk, Hm.s_cnt, Hm.ss_nil, Hm.ss_cons, Hm.kU_1, Hm.kU_2, Hm.kU_3, Hm.kB2_1, Hm.kB2_2, Hm.kB2_3, Hm.kB1_1, Hm.kB1_2, Hm.kB1_3, Hm.kI2_1, Hm.kI2_2, Hm.kI2_3, Hm.kI1_1, Hm.kI1_2, Hm.kI1_3, Hm.kS3_1, Hm.kS3_2, Hm.kS3_3, Hm.kS2_1, Hm.kS2_2, Hm.kS2_3, Hm.kS1_1, Hm.kS1_2, Hm.kS1_3, Hm.kC3_1, Hm.kC3_2, Hm.kC3_3, Hm.kC2'_1, Hm.kC2'_2, Hm.kC2_1, Hm.kC2_2, Hm.kC2_3, Hm.kC1_1, Hm.kC1_2, Hm.kC1_3, Hm.kTb_1, Hm.kTb_2, Hm.kTb_3, Hm.kIf_1, Hm.kIf_2, Hm.kIf_3, Hm.kIf_4, Hm.kTup_1, Hm.kTup_2, Hm.kTup_3, Hm.kLst_1, Hm.kLst_2, Hm.kLst_3, Hm.kCall_1, Hm.kCall_2, Hm.kCall_3, Hm.kX2_1, Hm.kX2_2, Hm.kX2_3, Hm.kX1_1, Hm.kX1_2, Hm.kX1_3, Hm.kL2_1, Hm.kL1_1, Hm.kL1_2, Hm.kL1_3, Hm.kLr_1, Hm.kLr_2, Hm.kLr_3, Hm.kOwn_1, Hm.kOwn_2, Hm.kOwn_3, Hm.kAn_1, Hm.kAn_2, Hm.kAn_3, Hm.kAn_4, Hm.kOr_1, Hm.kOr_2, Hm.kOr_3, Hm.kOr_4, Hm.kNt_1, Hm.kNt_2, Hm.kNt_3, Hm.kTr'_1, Hm.kTr'_2, Hm.kTr_1, Hm.kTr_2, Hm.kTr_3, Hm.kAnV_1, Hm.kAnV_2, Hm.kAnV_3, Hm.kAnV_4, Hm.kOrV_1, Hm.kOrV_2, Hm.kOrV_3, Hm.kOrV_4, Hm.kVl_1, Hm.kVl_2, Hm.kVl_3, Hm.kEo_1, Hm.kEo_2, Hm.kEo_3, Hm.kEs2_1, Hm.kEs2_2, Hm.kEs2_3, Hm.kEs1_1, Hm.kEs1_2, Hm.kEs1_3, Hm.kAs2_1, Hm.kAs2_2, Hm.kAs2_3, Hm.kAs1_1, Hm.kAs1_2, Hm.kAs1_3, Hm.kW_1, Hm.kW_2, Hm.kSq_1, Hm.kSq_2, Hm.kSq_3, Hm.kScr_1, Hm.kScr_2, Hm.kScr_3, Hm.kRg_1, Hm.kRg_2, Hm.kRg_3, Hm.kEn_1, Hm.kEn_2, Hm.kEn_3, Hm.kSet_1, Hm.kSet_2, Hm.kSet_3, Hm.kExp_1, Hm.kExp_2, Hm.kExp_3, Hm.kRet_1, Hm.kRet_2, Hm.kRet_3, Hm.kIff_1, Hm.kIff_2, Hm.kIff_3, Hm.kIff_4, Hm.kAp2_1, Hm.kAp1_1, Hm.kAp1_2, Hm.kAp1_3, Hm.kAp_1, Hm.kPl_1, Hm.kPl_2, Hm.kPd_1, Hm.kPd_2, Hm.kPk_1, Hm.kPk_2, Hm.kP3_1, Hm.kP3_2, Hm.kP2_1, Hm.kP2_2, Hm.kP2_3, Hm.kP1_1, Hm.kP1_2, Hm.kP1_3, Hm.kFor_1, Hm.kFor_2, Hm.kFor_3, Hm.kSeq_1, Hm.kSeq_2, Hm.kSeq_3, Hm.kSeq_4, Hm.kSeq_5, Hm.kSeq_6, Hm.kOp_s, Hm.kOp_n, Hm.kV_1, Hm.kMv_1, Hm.kSv_1, Hm.cr_1, Hm.cr_2, Hm.add_i, Hm.sub_i, Hm.mul_r, Hm.mul_l, Hm.mod_i, Hm.fdiv_i, Hm.lt_i, Hm.le_i, Hm.gt_i, Hm.ge_i, Hm.eq_i, Hm.eq_b, Hm.eq_s, Hm.ne_i, Hm.ne_b, Hm.min_i, Hm.max_i, Hm.isN_, Hm.notN_, Hm.neg_i, Hm.abs_i, Hm.int_i, Hm.int_b, Hm.len_l, Hm.len_t, Hm.ix_l, Hm.ix_t, Hm.tru_b, Hm.tru_i, Hm.own_i, Hm.ownV_v, Hm.lst_, Hm.tup_, Hm.sz_, Hm.join_s, Hm.join_n, Hm.at_0, Hm.at_1, Hm.at_2, Hm.at_3, Hm.at_4, Hm.at_5, Hm.at_6, Hm.at_7, Hm.at_8, Hm.at_9, Hm.at_10, Hm.at_11, Hm.at_12, Hm.at_13, Hm.at_14, Hm.at_15, Hm.at_16, Hm.at_17, Hm.at_18, Hm.at_19, Hm.at_20, Hm.at_21, Hm.at_22, Hm.at_23, Hm.at_24, Hm.at_25, Hm.ix5_0, Hm.ix5_1, Hm.ix5_2, Hm.ix5_3, Hm.ix5_4, Hm.pow_18, Hm.pow_39, Hm.pow_40, held, D.isC, isCs, E.pu, D.isNon, Cn.d, List.length_cons, List.length_nil, List.getElem?_cons_zero, List.getElem?_cons_succ, List.getElem?_nil, List.set_cons_zero, List.set_cons_succ, List.map_cons, List.map_nil, Option.map_some, Option.map_none, decide_eq_true_eq, Bool.true_and, Bool.and_true, Bool.false_and, Bool.and_false, Bool.not_true, Bool.not_false, Bool.or_true, Bool.true_or, Bool.or_false, Bool.false_or, or_true, true_or, or_false, false_or, and_true, true_and, Bool.false_eq_true, reduceCtorEq, not_true_eq_false, not_false_eq_true, Nat.reduceAdd, Nat.reduceLT, Nat.zero_add, eq_self, decide_true, decide_false, ↓reduceIte, Option.isSome_some, Option.isSome_none, ne_eq, Int.reduceNeg, Int.reducePow, Int.reduceLT, Int.reduceLE, Int.reduceEq, Int.reduceSub, Int.reduceAdd, Int.reduceMul, Nat.reducePow, Nat.reduceLeDiff]
theorem dis_for (n : Nat) : ∀ (ks : List Int) (s : D) (zs : List Int) (x1 x3 x4 x5 x6 : Option D), St s → zs.length < 1073741824 → (∀ k ∈ ks, 0 ≤ k ∧ k + 1 < zs.length) →
    ∃ (s' : D) (zs' : List Int) (y4 y5 y6 : Option D), forG (F (n + 2)) [0, 1] [4] b_dis_for (ks.map fun k => [.int k]) [some s, x1, some (.lst true (zs.map .int)), x3, x4, x5, x6] = .nx [some s', x1, some (.lst true (zs'.map .int)), x3, y4, y5, y6] ∧ St s' ∧ zs'.length = zs.length := by
  intro ks
  induction ks with
  | nil => intro s zs x1 x3 x4 x5 x6 h _ _; exact ⟨s, zs, x4, x5, x6, rfl, h, rfl⟩
  | cons k ks ih =>
    intro s zs x1 x3 x4 x5 x6 h hz hk
    obtain ⟨k0, k1⟩ := hk k List.mem_cons_self
    obtain ⟨s', zs', y5, y6, e, h', hl⟩ := dis_turn n s h zs hz k k0 k1 x1 x3 x5 x6
    rw [List.map_cons, forG_cons rfl rfl]
    show ∃ (s'' : D) (zs'' : List Int) (y4 y5 y6 : Option D), kFo (F (n + 2)) [0, 1] [4] b_dis_for (ks.map fun k => [.int k]) (Ss.go (F (n + 2)) [0, 1] b_dis_for [some s, x1, some (.lst true (zs.map .int)), x3, some (.int k), x5, x6]) = _ ∧ _
    rw [e]
    obtain ⟨s2, z2, y4', y5', y6', e', h2, hl2⟩ := ih s' zs' x1 x3 (some (.int k)) y5 y6 h' (by omega) (fun j hj => by rw [hl]; exact hk j (List.mem_cons_of_mem _ hj))
    exact ⟨s2, z2, y4', y5', y6', e', h2, hl2.trans hl⟩
theorem list_l {o : Bool} {xs : List D} (h : isCs xs = true) : U1.go .list (.lst o xs) = some (.lst true xs) := if_pos h
theorem rev_l {o : Bool} {xs : List D} (h : isCs xs = true) : U1.go .rev (.lst o xs) = some (.lst true xs.reverse) := if_pos h
theorem cl7 (n : Nat) (ds : List D) : F (n + 1) 7 ds = d__law_disorder.run (F n) ds := rfl
theorem range_ints (m : Nat) : ((List.range m).map fun (i : Nat) => [D.int i]) = (((List.range m).map fun (i : Nat) => (i : Int)).map fun k => [D.int k]) := by rw [List.map_map]; rfl
theorem disorder (n : Nat) (s : D) (h : St s) (o : Bool) (zs : List Int) (hz : zs.length < 1073741824) : ∃ (s' : D) (zs' : List Int) (f : Option D), F (n + 3) 7 [s, .lst o (zs.map .int)] = .ok (.lst true (zs'.map .int)) [some s', f] ∧ St s' ∧ zs'.length = zs.length := by
  rw [cl7, Df.run_eq _ _ _ rfl]
  show ∃ (s' : D) (zs' : List Int) (f : Option D), (Ss.go (F (n + 2)) [0, 1] b__law_disorder [some s, some (.lst o (zs.map .int)), none, none, none, none, none]).toCR d__law_disorder = .ok (.lst true (zs'.map .int)) [some s', f] ∧ St s' ∧ zs'.length = zs.length
  have c0 := list_l (o := o) (cells_isC zs)
  have c1 := call_take (n := n) h (m := 4) (by decide) [some (.lst o (zs.map .int)), some (.lst true (zs.map .int)), none, none, none, none]
  have s1 := st_ts (n := n) h (m := 4) (by decide)
  by_cases h0 : tk n s 4 = 0
  · simp only [b__law_disorder, c0, c1, h0, Hm.s_set, Hm.s_for, Hm.as_c, Hm.as_g, Hm.as_v, Hm.as_mv, Hm.as_u, Hm.as_b, Hm.as_ix, Hm.as_sl, Hm.as_ch, Hm.as_tb, Hm.as_ife, Hm.as_tup, Hm.as_lst, Hm.as_call, Hm.as_idx, Hm.as_lc, Hm.as_dE, Hm.as_sv, Hm.as_lr, Hm.go_ch, List.contains_nil, List.contains_cons, Nat.reduceBEq, List.any_cons, List.any_nil, beq_self_eq_true, Hm.go_c, Hm.go_g, Hm.go_v, Hm.go_mv, Hm.go_sv, Hm.go_u, Hm.go_b, Hm.go_ix, Hm.go_sl, Hm.go_tb, Hm.go_ife, Hm.go_tup, Hm.go_lst, Hm.go_call, Hm.go_idx, Hm.go_lc, Hm.go_dE, Hm.go_lr, Hm.tst_an, Hm.tst_or, Hm.tst_nt, Hm.tst_one, Hm.tst_e, Hm.val_an, Hm.val_or, Hm.val_nt, Hm.val_one, Hm.val_e, Hm.eo_no, Hm.eo_yes, Hm.to_no, Hm.to_yes, Hm.es_nil, Hm.es_cons, Hm.as_nil, Hm.as_io, Hm.as_ln, Hm.it_seq, Hm.it_scr, Hm.it_rng, Hm.it_enum, Hm.s_expr, Hm.s_ret, Hm.s_iff, Hm.s_app, Hm.s_put, Hm.s_pass, Hm.s_brk, Hm.s_cnt, Hm.ss_nil, Hm.ss_cons, Hm.kU_1, Hm.kU_2, Hm.kU_3, Hm.kB2_1, Hm.kB2_2, Hm.kB2_3, Hm.kB1_1, Hm.kB1_2, Hm.kB1_3, Hm.kI2_1, Hm.kI2_2, Hm.kI2_3, Hm.kI1_1, Hm.kI1_2, Hm.kI1_3, Hm.kS3_1, Hm.kS3_2, Hm.kS3_3, Hm.kS2_1, Hm.kS2_2, Hm.kS2_3, Hm.kS1_1, Hm.kS1_2, Hm.kS1_3, Hm.kC3_1, Hm.kC3_2, Hm.kC3_3, Hm.kC2'_1, Hm.kC2'_2, Hm.kC2_1, Hm.kC2_2, Hm.kC2_3, Hm.kC1_1, Hm.kC1_2, Hm.kC1_3, Hm.kTb_1, Hm.kTb_2, Hm.kTb_3, Hm.kIf_1, Hm.kIf_2, Hm.kIf_3, Hm.kIf_4, Hm.kTup_1, Hm.kTup_2, Hm.kTup_3, Hm.kLst_1, Hm.kLst_2, Hm.kLst_3, Hm.kCall_1, Hm.kCall_2, Hm.kCall_3, Hm.kX2_1, Hm.kX2_2, Hm.kX2_3, Hm.kX1_1, Hm.kX1_2, Hm.kX1_3, Hm.kL2_1, Hm.kL1_1, Hm.kL1_2, Hm.kL1_3, Hm.kLr_1, Hm.kLr_2, Hm.kLr_3, Hm.kOwn_1, Hm.kOwn_2, Hm.kOwn_3, Hm.kAn_1, Hm.kAn_2, Hm.kAn_3, Hm.kAn_4, Hm.kOr_1, Hm.kOr_2, Hm.kOr_3, Hm.kOr_4, Hm.kNt_1, Hm.kNt_2, Hm.kNt_3, Hm.kTr'_1, Hm.kTr'_2, Hm.kTr_1, Hm.kTr_2, Hm.kTr_3, Hm.kAnV_1, Hm.kAnV_2, Hm.kAnV_3, Hm.kAnV_4, Hm.kOrV_1, Hm.kOrV_2, Hm.kOrV_3, Hm.kOrV_4, Hm.kVl_1, Hm.kVl_2, Hm.kVl_3, Hm.kEo_1, Hm.kEo_2, Hm.kEo_3, Hm.kEs2_1, Hm.kEs2_2, Hm.kEs2_3, Hm.kEs1_1, Hm.kEs1_2, Hm.kEs1_3, Hm.kAs2_1, Hm.kAs2_2, Hm.kAs2_3, Hm.kAs1_1, Hm.kAs1_2, Hm.kAs1_3, Hm.kW_1, Hm.kW_2, Hm.kSq_1, Hm.kSq_2, Hm.kSq_3, Hm.kScr_1, Hm.kScr_2, Hm.kScr_3, Hm.kRg_1, Hm.kRg_2, Hm.kRg_3, Hm.kEn_1, Hm.kEn_2, Hm.kEn_3, Hm.kSet_1, Hm.kSet_2, Hm.kSet_3, Hm.kExp_1, Hm.kExp_2, Hm.kExp_3, Hm.kRet_1, Hm.kRet_2, Hm.kRet_3, Hm.kIff_1, Hm.kIff_2, Hm.kIff_3, Hm.kIff_4, Hm.kAp2_1, Hm.kAp1_1, Hm.kAp1_2, Hm.kAp1_3, Hm.kAp_1, Hm.kPl_1, Hm.kPl_2, Hm.kPd_1, Hm.kPd_2, Hm.kPk_1, Hm.kPk_2, Hm.kP3_1, Hm.kP3_2, Hm.kP2_1, Hm.kP2_2, Hm.kP2_3, Hm.kP1_1, Hm.kP1_2, Hm.kP1_3, Hm.kFor_1, Hm.kFor_2, Hm.kFor_3, Hm.kSeq_1, Hm.kSeq_2, Hm.kSeq_3, Hm.kSeq_4, Hm.kSeq_5, Hm.kSeq_6, Hm.kOp_s, Hm.kOp_n, Hm.kV_1, Hm.kMv_1, Hm.kSv_1, Hm.cr_1, Hm.cr_2, Hm.add_i, Hm.sub_i, Hm.mul_r, Hm.mul_l, Hm.mod_i, Hm.fdiv_i, Hm.lt_i, Hm.le_i, Hm.gt_i, Hm.ge_i, Hm.eq_i, Hm.eq_b, Hm.eq_s, Hm.ne_i, Hm.ne_b, Hm.min_i, Hm.max_i, Hm.isN_, Hm.notN_, Hm.neg_i, Hm.abs_i, Hm.int_i, Hm.int_b, Hm.len_l, Hm.len_t, Hm.ix_l, Hm.ix_t, Hm.tru_b, Hm.tru_i, Hm.own_i, Hm.ownV_v, Hm.lst_, Hm.tup_, Hm.sz_, Hm.join_s, Hm.join_n, Hm.at_0, Hm.at_1, Hm.at_2, Hm.at_3, Hm.at_4, Hm.at_5, Hm.at_6, Hm.at_7, Hm.at_8, Hm.at_9, Hm.at_10, Hm.at_11, Hm.at_12, Hm.at_13, Hm.at_14, Hm.at_15, Hm.at_16, Hm.at_17, Hm.at_18, Hm.at_19, Hm.at_20, Hm.at_21, Hm.at_22, Hm.at_23, Hm.at_24, Hm.at_25, Hm.ix5_0, Hm.ix5_1, Hm.ix5_2, Hm.ix5_3, Hm.ix5_4, Hm.pow_18, Hm.pow_39, Hm.pow_40, held, D.isC, isCs, E.pu, D.isNon, Cn.d, List.length_cons, List.length_nil, List.getElem?_cons_zero, List.getElem?_cons_succ, List.getElem?_nil, List.set_cons_zero, List.set_cons_succ, List.map_cons, List.map_nil, Option.map_some, Option.map_none, decide_eq_true_eq, Bool.true_and, Bool.and_true, Bool.false_and, Bool.and_false, Bool.not_true, Bool.not_false, Bool.or_true, Bool.true_or, Bool.or_false, Bool.false_or, or_true, true_or, or_false, false_or, and_true, true_and, Bool.false_eq_true, reduceCtorEq, not_true_eq_false, not_false_eq_true, Nat.reduceAdd, Nat.reduceLT, Nat.zero_add, eq_self, decide_true, decide_false, ↓reduceIte, Option.isSome_some, Option.isSome_none, ne_eq, Int.reduceNeg, Int.reducePow, Int.reduceLT, Int.reduceLE, Int.reduceEq, Int.reduceSub, Int.reduceAdd, Int.reduceMul, Nat.reducePow, Nat.reduceLeDiff]
    exact ⟨_, _, _, rfl, s1, rfl⟩
  · by_cases h2 : tk n s 4 = 1
    · have c2 := rev_l (o := true) (cells_isC zs)
      simp only [b__law_disorder, c0, c1, c2, h2, Hm.s_set, Hm.s_for, Hm.as_c, Hm.as_g, Hm.as_v, Hm.as_mv, Hm.as_u, Hm.as_b, Hm.as_ix, Hm.as_sl, Hm.as_ch, Hm.as_tb, Hm.as_ife, Hm.as_tup, Hm.as_lst, Hm.as_call, Hm.as_idx, Hm.as_lc, Hm.as_dE, Hm.as_sv, Hm.as_lr, Hm.go_ch, List.contains_nil, List.contains_cons, Nat.reduceBEq, List.any_cons, List.any_nil, beq_self_eq_true, Hm.go_c, Hm.go_g, Hm.go_v, Hm.go_mv, Hm.go_sv, Hm.go_u, Hm.go_b, Hm.go_ix, Hm.go_sl, Hm.go_tb, Hm.go_ife, Hm.go_tup, Hm.go_lst, Hm.go_call, Hm.go_idx, Hm.go_lc, Hm.go_dE, Hm.go_lr, Hm.tst_an, Hm.tst_or, Hm.tst_nt, Hm.tst_one, Hm.tst_e, Hm.val_an, Hm.val_or, Hm.val_nt, Hm.val_one, Hm.val_e, Hm.eo_no, Hm.eo_yes, Hm.to_no, Hm.to_yes, Hm.es_nil, Hm.es_cons, Hm.as_nil, Hm.as_io, Hm.as_ln, Hm.it_seq, Hm.it_scr, Hm.it_rng, Hm.it_enum, Hm.s_expr, Hm.s_ret, Hm.s_iff, Hm.s_app, Hm.s_put, Hm.s_pass, Hm.s_brk, Hm.s_cnt, Hm.ss_nil, Hm.ss_cons, Hm.kU_1, Hm.kU_2, Hm.kU_3, Hm.kB2_1, Hm.kB2_2, Hm.kB2_3, Hm.kB1_1, Hm.kB1_2, Hm.kB1_3, Hm.kI2_1, Hm.kI2_2, Hm.kI2_3, Hm.kI1_1, Hm.kI1_2, Hm.kI1_3, Hm.kS3_1, Hm.kS3_2, Hm.kS3_3, Hm.kS2_1, Hm.kS2_2, Hm.kS2_3, Hm.kS1_1, Hm.kS1_2, Hm.kS1_3, Hm.kC3_1, Hm.kC3_2, Hm.kC3_3, Hm.kC2'_1, Hm.kC2'_2, Hm.kC2_1, Hm.kC2_2, Hm.kC2_3, Hm.kC1_1, Hm.kC1_2, Hm.kC1_3, Hm.kTb_1, Hm.kTb_2, Hm.kTb_3, Hm.kIf_1, Hm.kIf_2, Hm.kIf_3, Hm.kIf_4, Hm.kTup_1, Hm.kTup_2, Hm.kTup_3, Hm.kLst_1, Hm.kLst_2, Hm.kLst_3, Hm.kCall_1, Hm.kCall_2, Hm.kCall_3, Hm.kX2_1, Hm.kX2_2, Hm.kX2_3, Hm.kX1_1, Hm.kX1_2, Hm.kX1_3, Hm.kL2_1, Hm.kL1_1, Hm.kL1_2, Hm.kL1_3, Hm.kLr_1, Hm.kLr_2, Hm.kLr_3, Hm.kOwn_1, Hm.kOwn_2, Hm.kOwn_3, Hm.kAn_1, Hm.kAn_2, Hm.kAn_3, Hm.kAn_4, Hm.kOr_1, Hm.kOr_2, Hm.kOr_3, Hm.kOr_4, Hm.kNt_1, Hm.kNt_2, Hm.kNt_3, Hm.kTr'_1, Hm.kTr'_2, Hm.kTr_1, Hm.kTr_2, Hm.kTr_3, Hm.kAnV_1, Hm.kAnV_2, Hm.kAnV_3, Hm.kAnV_4, Hm.kOrV_1, Hm.kOrV_2, Hm.kOrV_3, Hm.kOrV_4, Hm.kVl_1, Hm.kVl_2, Hm.kVl_3, Hm.kEo_1, Hm.kEo_2, Hm.kEo_3, Hm.kEs2_1, Hm.kEs2_2, Hm.kEs2_3, Hm.kEs1_1, Hm.kEs1_2, Hm.kEs1_3, Hm.kAs2_1, Hm.kAs2_2, Hm.kAs2_3, Hm.kAs1_1, Hm.kAs1_2, Hm.kAs1_3, Hm.kW_1, Hm.kW_2, Hm.kSq_1, Hm.kSq_2, Hm.kSq_3, Hm.kScr_1, Hm.kScr_2, Hm.kScr_3, Hm.kRg_1, Hm.kRg_2, Hm.kRg_3, Hm.kEn_1, Hm.kEn_2, Hm.kEn_3, Hm.kSet_1, Hm.kSet_2, Hm.kSet_3, Hm.kExp_1, Hm.kExp_2, Hm.kExp_3, Hm.kRet_1, Hm.kRet_2, Hm.kRet_3, Hm.kIff_1, Hm.kIff_2, Hm.kIff_3, Hm.kIff_4, Hm.kAp2_1, Hm.kAp1_1, Hm.kAp1_2, Hm.kAp1_3, Hm.kAp_1, Hm.kPl_1, Hm.kPl_2, Hm.kPd_1, Hm.kPd_2, Hm.kPk_1, Hm.kPk_2, Hm.kP3_1, Hm.kP3_2, Hm.kP2_1, Hm.kP2_2, Hm.kP2_3, Hm.kP1_1, Hm.kP1_2, Hm.kP1_3, Hm.kFor_1, Hm.kFor_2, Hm.kFor_3, Hm.kSeq_1, Hm.kSeq_2, Hm.kSeq_3, Hm.kSeq_4, Hm.kSeq_5, Hm.kSeq_6, Hm.kOp_s, Hm.kOp_n, Hm.kV_1, Hm.kMv_1, Hm.kSv_1, Hm.cr_1, Hm.cr_2, Hm.add_i, Hm.sub_i, Hm.mul_r, Hm.mul_l, Hm.mod_i, Hm.fdiv_i, Hm.lt_i, Hm.le_i, Hm.gt_i, Hm.ge_i, Hm.eq_i, Hm.eq_b, Hm.eq_s, Hm.ne_i, Hm.ne_b, Hm.min_i, Hm.max_i, Hm.isN_, Hm.notN_, Hm.neg_i, Hm.abs_i, Hm.int_i, Hm.int_b, Hm.len_l, Hm.len_t, Hm.ix_l, Hm.ix_t, Hm.tru_b, Hm.tru_i, Hm.own_i, Hm.ownV_v, Hm.lst_, Hm.tup_, Hm.sz_, Hm.join_s, Hm.join_n, Hm.at_0, Hm.at_1, Hm.at_2, Hm.at_3, Hm.at_4, Hm.at_5, Hm.at_6, Hm.at_7, Hm.at_8, Hm.at_9, Hm.at_10, Hm.at_11, Hm.at_12, Hm.at_13, Hm.at_14, Hm.at_15, Hm.at_16, Hm.at_17, Hm.at_18, Hm.at_19, Hm.at_20, Hm.at_21, Hm.at_22, Hm.at_23, Hm.at_24, Hm.at_25, Hm.ix5_0, Hm.ix5_1, Hm.ix5_2, Hm.ix5_3, Hm.ix5_4, Hm.pow_18, Hm.pow_39, Hm.pow_40, held, D.isC, isCs, E.pu, D.isNon, Cn.d, List.length_cons, List.length_nil, List.getElem?_cons_zero, List.getElem?_cons_succ, List.getElem?_nil, List.set_cons_zero, List.set_cons_succ, List.map_cons, List.map_nil, Option.map_some, Option.map_none, decide_eq_true_eq, Bool.true_and, Bool.and_true, Bool.false_and, Bool.and_false, Bool.not_true, Bool.not_false, Bool.or_true, Bool.true_or, Bool.or_false, Bool.false_or, or_true, true_or, or_false, false_or, and_true, true_and, Bool.false_eq_true, reduceCtorEq, not_true_eq_false, not_false_eq_true, Nat.reduceAdd, Nat.reduceLT, Nat.zero_add, eq_self, decide_true, decide_false, ↓reduceIte, Option.isSome_some, Option.isSome_none, ne_eq, Int.reduceNeg, Int.reducePow, Int.reduceLT, Int.reduceLE, Int.reduceEq, Int.reduceSub, Int.reduceAdd, Int.reduceMul, Nat.reducePow, Nat.reduceLeDiff]
      exact ⟨_, zs.reverse, _, by rw [List.map_reverse]; rfl, s1, List.length_reverse⟩
    · have h3 : (-4611686018427387904 ≤ ((zs.map D.int).length : Int) - 1) = True := eq_true (by omega)
      have h4 : (((zs.map D.int).length : Int) - 1 < 4611686018427387904) = True := eq_true (by rw [List.length_map]; omega)
      obtain ⟨s', zs', y4, y5, y6, e, h', hl⟩ := dis_for n ((List.range (((zs.map D.int).length : Int) - 1).toNat).map fun (i : Nat) => (i : Int)) (ts n s 4) zs (some (.lst o (zs.map .int))) (some (.int (tk n s 4))) none none none s1 hz (fun k hk => by
        obtain ⟨i, hi, rfl⟩ := List.mem_map.mp hk
        rw [List.mem_range, List.length_map] at hi
        omega)
      rw [← range_ints] at e
      simp only [b_dis_for] at e
      simp only [b__law_disorder, c0, c1, h0, h2, h3, h4, e, Hm.s_set, Hm.s_for, Hm.as_c, Hm.as_g, Hm.as_v, Hm.as_mv, Hm.as_u, Hm.as_b, Hm.as_ix, Hm.as_sl, Hm.as_ch, Hm.as_tb, Hm.as_ife, Hm.as_tup, Hm.as_lst, Hm.as_call, Hm.as_idx, Hm.as_lc, Hm.as_dE, Hm.as_sv, Hm.as_lr, Hm.go_ch, List.contains_nil, List.contains_cons, Nat.reduceBEq, List.any_cons, List.any_nil, beq_self_eq_true, Hm.go_c, Hm.go_g, Hm.go_v, Hm.go_mv, Hm.go_sv, Hm.go_u, Hm.go_b, Hm.go_ix, Hm.go_sl, Hm.go_tb, Hm.go_ife, Hm.go_tup, Hm.go_lst, Hm.go_call, Hm.go_idx, Hm.go_lc, Hm.go_dE, Hm.go_lr, Hm.tst_an, Hm.tst_or, Hm.tst_nt, Hm.tst_one, Hm.tst_e, Hm.val_an, Hm.val_or, Hm.val_nt, Hm.val_one, Hm.val_e, Hm.eo_no, Hm.eo_yes, Hm.to_no, Hm.to_yes, Hm.es_nil, Hm.es_cons, Hm.as_nil, Hm.as_io, Hm.as_ln, Hm.it_seq, Hm.it_scr, Hm.it_rng, Hm.it_enum, Hm.s_expr, Hm.s_ret, Hm.s_iff, Hm.s_app, Hm.s_put, Hm.s_pass, Hm.s_brk, Hm.s_cnt, Hm.ss_nil, Hm.ss_cons, Hm.kU_1, Hm.kU_2, Hm.kU_3, Hm.kB2_1, Hm.kB2_2, Hm.kB2_3, Hm.kB1_1, Hm.kB1_2, Hm.kB1_3, Hm.kI2_1, Hm.kI2_2, Hm.kI2_3, Hm.kI1_1, Hm.kI1_2, Hm.kI1_3, Hm.kS3_1, Hm.kS3_2, Hm.kS3_3, Hm.kS2_1, Hm.kS2_2, Hm.kS2_3, Hm.kS1_1, Hm.kS1_2, Hm.kS1_3, Hm.kC3_1, Hm.kC3_2, Hm.kC3_3, Hm.kC2'_1, Hm.kC2'_2, Hm.kC2_1, Hm.kC2_2, Hm.kC2_3, Hm.kC1_1, Hm.kC1_2, Hm.kC1_3, Hm.kTb_1, Hm.kTb_2, Hm.kTb_3, Hm.kIf_1, Hm.kIf_2, Hm.kIf_3, Hm.kIf_4, Hm.kTup_1, Hm.kTup_2, Hm.kTup_3, Hm.kLst_1, Hm.kLst_2, Hm.kLst_3, Hm.kCall_1, Hm.kCall_2, Hm.kCall_3, Hm.kX2_1, Hm.kX2_2, Hm.kX2_3, Hm.kX1_1, Hm.kX1_2, Hm.kX1_3, Hm.kL2_1, Hm.kL1_1, Hm.kL1_2, Hm.kL1_3, Hm.kLr_1, Hm.kLr_2, Hm.kLr_3, Hm.kOwn_1, Hm.kOwn_2, Hm.kOwn_3, Hm.kAn_1, Hm.kAn_2, Hm.kAn_3, Hm.kAn_4, Hm.kOr_1, Hm.kOr_2, Hm.kOr_3, Hm.kOr_4, Hm.kNt_1, Hm.kNt_2, Hm.kNt_3, Hm.kTr'_1, Hm.kTr'_2, Hm.kTr_1, Hm.kTr_2, Hm.kTr_3, Hm.kAnV_1, Hm.kAnV_2, Hm.kAnV_3, Hm.kAnV_4, Hm.kOrV_1, Hm.kOrV_2, Hm.kOrV_3, Hm.kOrV_4, Hm.kVl_1, Hm.kVl_2, Hm.kVl_3, Hm.kEo_1, Hm.kEo_2, Hm.kEo_3, Hm.kEs2_1, Hm.kEs2_2, Hm.kEs2_3, Hm.kEs1_1, Hm.kEs1_2, Hm.kEs1_3, Hm.kAs2_1, Hm.kAs2_2, Hm.kAs2_3, Hm.kAs1_1, Hm.kAs1_2, Hm.kAs1_3, Hm.kW_1, Hm.kW_2, Hm.kSq_1, Hm.kSq_2, Hm.kSq_3, Hm.kScr_1, Hm.kScr_2, Hm.kScr_3, Hm.kRg_1, Hm.kRg_2, Hm.kRg_3, Hm.kEn_1, Hm.kEn_2, Hm.kEn_3, Hm.kSet_1, Hm.kSet_2, Hm.kSet_3, Hm.kExp_1, Hm.kExp_2, Hm.kExp_3, Hm.kRet_1, Hm.kRet_2, Hm.kRet_3, Hm.kIff_1, Hm.kIff_2, Hm.kIff_3, Hm.kIff_4, Hm.kAp2_1, Hm.kAp1_1, Hm.kAp1_2, Hm.kAp1_3, Hm.kAp_1, Hm.kPl_1, Hm.kPl_2, Hm.kPd_1, Hm.kPd_2, Hm.kPk_1, Hm.kPk_2, Hm.kP3_1, Hm.kP3_2, Hm.kP2_1, Hm.kP2_2, Hm.kP2_3, Hm.kP1_1, Hm.kP1_2, Hm.kP1_3, Hm.kFor_1, Hm.kFor_2, Hm.kFor_3, Hm.kSeq_1, Hm.kSeq_2, Hm.kSeq_3, Hm.kSeq_4, Hm.kSeq_5, Hm.kSeq_6, Hm.kOp_s, Hm.kOp_n, Hm.kV_1, Hm.kMv_1, Hm.kSv_1, Hm.cr_1, Hm.cr_2, Hm.add_i, Hm.sub_i, Hm.mul_r, Hm.mul_l, Hm.mod_i, Hm.fdiv_i, Hm.lt_i, Hm.le_i, Hm.gt_i, Hm.ge_i, Hm.eq_i, Hm.eq_b, Hm.eq_s, Hm.ne_i, Hm.ne_b, Hm.min_i, Hm.max_i, Hm.isN_, Hm.notN_, Hm.neg_i, Hm.abs_i, Hm.int_i, Hm.int_b, Hm.len_l, Hm.len_t, Hm.ix_l, Hm.ix_t, Hm.tru_b, Hm.tru_i, Hm.own_i, Hm.ownV_v, Hm.lst_, Hm.tup_, Hm.sz_, Hm.join_s, Hm.join_n, Hm.at_0, Hm.at_1, Hm.at_2, Hm.at_3, Hm.at_4, Hm.at_5, Hm.at_6, Hm.at_7, Hm.at_8, Hm.at_9, Hm.at_10, Hm.at_11, Hm.at_12, Hm.at_13, Hm.at_14, Hm.at_15, Hm.at_16, Hm.at_17, Hm.at_18, Hm.at_19, Hm.at_20, Hm.at_21, Hm.at_22, Hm.at_23, Hm.at_24, Hm.at_25, Hm.ix5_0, Hm.ix5_1, Hm.ix5_2, Hm.ix5_3, Hm.ix5_4, Hm.pow_18, Hm.pow_39, Hm.pow_40, held, D.isC, isCs, E.pu, D.isNon, Cn.d, List.length_cons, List.length_nil, List.getElem?_cons_zero, List.getElem?_cons_succ, List.getElem?_nil, List.set_cons_zero, List.set_cons_succ, List.map_cons, List.map_nil, Option.map_some, Option.map_none, decide_eq_true_eq, Bool.true_and, Bool.and_true, Bool.false_and, Bool.and_false, Bool.not_true, Bool.not_false, Bool.or_true, Bool.true_or, Bool.or_false, Bool.false_or, or_true, true_or, or_false, false_or, and_true, true_and, Bool.false_eq_true, reduceCtorEq, not_true_eq_false, not_false_eq_true, Nat.reduceAdd, Nat.reduceLT, Nat.zero_add, eq_self, decide_true, decide_false, ↓reduceIte, Option.isSome_some, Option.isSome_none, ne_eq, Int.reduceNeg, Int.reducePow, Int.reduceLT, Int.reduceLE, Int.reduceEq, Int.reduceSub, Int.reduceAdd, Int.reduceMul, Nat.reducePow, Nat.reduceLeDiff]
      exact ⟨_, _, _, rfl, h', hl⟩
/-! ### the same -/
theorem cl8 (n : Nat) (ds : List D) : F (n + 1) 8 ds = d__law_same.run (F n) ds := rfl
theorem isi_ {ts : List Ty} {d : D} : U1.go (.isi ts) d = (isiD ts d).map .bl := rfl
theorem same_int (n : Nat) (a b : Int) : F (n + 1) 8 [.int a, .int b] = .ok (.bl (decide (a = b))) [none, none] := by
  rw [cl8, Df.run_eq _ _ _ rfl]
  show (Ss.go (F n) [] b__law_same [some (.int a), some (.int b), none, none]).toCR d__law_same = .ok (.bl (decide (a = b))) [none, none]
  simp only [b__law_same, isi_, isiD, D.isi, bne_self_eq_false, Bool.true_bne, Bool.false_bne, Bool.not_false, Bool.not_true, Hm.s_set, Hm.s_for, Hm.as_c, Hm.as_g, Hm.as_v, Hm.as_mv, Hm.as_u, Hm.as_b, Hm.as_ix, Hm.as_sl, Hm.as_ch, Hm.as_tb, Hm.as_ife, Hm.as_tup, Hm.as_lst, Hm.as_call, Hm.as_idx, Hm.as_lc, Hm.as_dE, Hm.as_sv, Hm.as_lr, Hm.go_ch, List.contains_nil, List.contains_cons, Nat.reduceBEq, List.any_cons, List.any_nil, beq_self_eq_true, Hm.go_c, Hm.go_g, Hm.go_v, Hm.go_mv, Hm.go_sv, Hm.go_u, Hm.go_b, Hm.go_ix, Hm.go_sl, Hm.go_tb, Hm.go_ife, Hm.go_tup, Hm.go_lst, Hm.go_call, Hm.go_idx, Hm.go_lc, Hm.go_dE, Hm.go_lr, Hm.tst_an, Hm.tst_or, Hm.tst_nt, Hm.tst_one, Hm.tst_e, Hm.val_an, Hm.val_or, Hm.val_nt, Hm.val_one, Hm.val_e, Hm.eo_no, Hm.eo_yes, Hm.to_no, Hm.to_yes, Hm.es_nil, Hm.es_cons, Hm.as_nil, Hm.as_io, Hm.as_ln, Hm.it_seq, Hm.it_scr, Hm.it_rng, Hm.it_enum, Hm.s_expr, Hm.s_ret, Hm.s_iff, Hm.s_app, Hm.s_put, Hm.s_pass, Hm.s_brk, Hm.s_cnt, Hm.ss_nil, Hm.ss_cons, Hm.kU_1, Hm.kU_2, Hm.kU_3, Hm.kB2_1, Hm.kB2_2, Hm.kB2_3, Hm.kB1_1, Hm.kB1_2, Hm.kB1_3, Hm.kI2_1, Hm.kI2_2, Hm.kI2_3, Hm.kI1_1, Hm.kI1_2, Hm.kI1_3, Hm.kS3_1, Hm.kS3_2, Hm.kS3_3, Hm.kS2_1, Hm.kS2_2, Hm.kS2_3, Hm.kS1_1, Hm.kS1_2, Hm.kS1_3, Hm.kC3_1, Hm.kC3_2, Hm.kC3_3, Hm.kC2'_1, Hm.kC2'_2, Hm.kC2_1, Hm.kC2_2, Hm.kC2_3, Hm.kC1_1, Hm.kC1_2, Hm.kC1_3, Hm.kTb_1, Hm.kTb_2, Hm.kTb_3, Hm.kIf_1, Hm.kIf_2, Hm.kIf_3, Hm.kIf_4, Hm.kTup_1, Hm.kTup_2, Hm.kTup_3, Hm.kLst_1, Hm.kLst_2, Hm.kLst_3, Hm.kCall_1, Hm.kCall_2, Hm.kCall_3, Hm.kX2_1, Hm.kX2_2, Hm.kX2_3, Hm.kX1_1, Hm.kX1_2, Hm.kX1_3, Hm.kL2_1, Hm.kL1_1, Hm.kL1_2, Hm.kL1_3, Hm.kLr_1, Hm.kLr_2, Hm.kLr_3, Hm.kOwn_1, Hm.kOwn_2, Hm.kOwn_3, Hm.kAn_1, Hm.kAn_2, Hm.kAn_3, Hm.kAn_4, Hm.kOr_1, Hm.kOr_2, Hm.kOr_3, Hm.kOr_4, Hm.kNt_1, Hm.kNt_2, Hm.kNt_3, Hm.kTr'_1, Hm.kTr'_2, Hm.kTr_1, Hm.kTr_2, Hm.kTr_3, Hm.kAnV_1, Hm.kAnV_2, Hm.kAnV_3, Hm.kAnV_4, Hm.kOrV_1, Hm.kOrV_2, Hm.kOrV_3, Hm.kOrV_4, Hm.kVl_1, Hm.kVl_2, Hm.kVl_3, Hm.kEo_1, Hm.kEo_2, Hm.kEo_3, Hm.kEs2_1, Hm.kEs2_2, Hm.kEs2_3, Hm.kEs1_1, Hm.kEs1_2, Hm.kEs1_3, Hm.kAs2_1, Hm.kAs2_2, Hm.kAs2_3, Hm.kAs1_1, Hm.kAs1_2, Hm.kAs1_3, Hm.kW_1, Hm.kW_2, Hm.kSq_1, Hm.kSq_2, Hm.kSq_3, Hm.kScr_1, Hm.kScr_2, Hm.kScr_3, Hm.kRg_1, Hm.kRg_2, Hm.kRg_3, Hm.kEn_1, Hm.kEn_2, Hm.kEn_3, Hm.kSet_1, Hm.kSet_2, Hm.kSet_3, Hm.kExp_1, Hm.kExp_2, Hm.kExp_3, Hm.kRet_1, Hm.kRet_2, Hm.kRet_3, Hm.kIff_1, Hm.kIff_2, Hm.kIff_3, Hm.kIff_4, Hm.kAp2_1, Hm.kAp1_1, Hm.kAp1_2, Hm.kAp1_3, Hm.kAp_1, Hm.kPl_1, Hm.kPl_2, Hm.kPd_1, Hm.kPd_2, Hm.kPk_1, Hm.kPk_2, Hm.kP3_1, Hm.kP3_2, Hm.kP2_1, Hm.kP2_2, Hm.kP2_3, Hm.kP1_1, Hm.kP1_2, Hm.kP1_3, Hm.kFor_1, Hm.kFor_2, Hm.kFor_3, Hm.kSeq_1, Hm.kSeq_2, Hm.kSeq_3, Hm.kSeq_4, Hm.kSeq_5, Hm.kSeq_6, Hm.kOp_s, Hm.kOp_n, Hm.kV_1, Hm.kMv_1, Hm.kSv_1, Hm.cr_1, Hm.cr_2, Hm.add_i, Hm.sub_i, Hm.mul_r, Hm.mul_l, Hm.mod_i, Hm.fdiv_i, Hm.lt_i, Hm.le_i, Hm.gt_i, Hm.ge_i, Hm.eq_i, Hm.eq_b, Hm.eq_s, Hm.ne_i, Hm.ne_b, Hm.min_i, Hm.max_i, Hm.isN_, Hm.notN_, Hm.neg_i, Hm.abs_i, Hm.int_i, Hm.int_b, Hm.len_l, Hm.len_t, Hm.ix_l, Hm.ix_t, Hm.tru_b, Hm.tru_i, Hm.own_i, Hm.ownV_v, Hm.lst_, Hm.tup_, Hm.sz_, Hm.join_s, Hm.join_n, Hm.at_0, Hm.at_1, Hm.at_2, Hm.at_3, Hm.at_4, Hm.at_5, Hm.at_6, Hm.at_7, Hm.at_8, Hm.at_9, Hm.at_10, Hm.at_11, Hm.at_12, Hm.at_13, Hm.at_14, Hm.at_15, Hm.at_16, Hm.at_17, Hm.at_18, Hm.at_19, Hm.at_20, Hm.at_21, Hm.at_22, Hm.at_23, Hm.at_24, Hm.at_25, Hm.ix5_0, Hm.ix5_1, Hm.ix5_2, Hm.ix5_3, Hm.ix5_4, Hm.pow_18, Hm.pow_39, Hm.pow_40, held, D.isC, isCs, E.pu, D.isNon, Cn.d, List.length_cons, List.length_nil, List.getElem?_cons_zero, List.getElem?_cons_succ, List.getElem?_nil, List.set_cons_zero, List.set_cons_succ, List.map_cons, List.map_nil, Option.map_some, Option.map_none, decide_eq_true_eq, Bool.true_and, Bool.and_true, Bool.false_and, Bool.and_false, Bool.not_true, Bool.not_false, Bool.or_true, Bool.true_or, Bool.or_false, Bool.false_or, or_true, true_or, or_false, false_or, and_true, true_and, Bool.false_eq_true, reduceCtorEq, not_true_eq_false, not_false_eq_true, Nat.reduceAdd, Nat.reduceLT, Nat.zero_add, eq_self, decide_true, decide_false, ↓reduceIte, Option.isSome_some, Option.isSome_none, ne_eq, Int.reduceNeg, Int.reducePow, Int.reduceLT, Int.reduceLE, Int.reduceEq, Int.reduceSub, Int.reduceAdd, Int.reduceMul, Nat.reducePow, Nat.reduceLeDiff]
  rfl
def b_same_for : Ss := .cons (.iff (.nt (.e (.call 8 (.cons (.ix (.sv 0) (.v 2)) (.cons (.ix (.sv 1) (.v 2)) .nil))))) (.cons (.ret (.c (.bl false))) .nil) .nil) .nil
theorem clr_ints (o : Bool) (zs : List Int) : D.clr (.lst o (zs.map .int)) = .lst false (zs.map .int) := by rw [D.clr, clrs_of _ (cells_isC zs)]
theorem call_same_int (n : Nat) (a : Int) (ρ : Ev) : callR (F (n + 1)) 8 [.d (.int a), .d (.int a)] ρ = .ok (.bl true, false) ρ := by
  rw [callR_ok (as := [.d (.int a), .d (.int a)]) (ds := [.int a, .int a]) rfl List.nodup_nil (same_int n a a) rfl, decide_eq_true rfl]
  rfl
theorem same_for (n : Nat) (zs : List Int) : ∀ (ks : List Int) (o o' : Bool) (x2 x3 : Option D), (∀ k ∈ ks, 0 ≤ k ∧ k < zs.length) →
    ∃ (p p' : Bool) (y : Option D), forG (F (n + 1)) [] [2] b_same_for (ks.map fun k => [.int k]) [some (.lst o (zs.map .int)), some (.lst o' (zs.map .int)), x2, x3] = .nx [some (.lst p (zs.map .int)), some (.lst p' (zs.map .int)), y, x3] := by
  intro ks
  induction ks with
  | nil => intro o o' x2 x3 _; exact ⟨o, o', x2, rfl⟩
  | cons k ks ih =>
    intro o o' x2 x3 hk
    obtain ⟨k0, k1⟩ := hk k List.mem_cons_self
    obtain ⟨a, ha⟩ := atI_in (zs := zs) k0 k1
    rw [List.map_cons, forG_cons rfl rfl]
    show ∃ (p p' : Bool) (y : Option D), kFo (F (n + 1)) [] [2] b_same_for (ks.map fun k => [.int k]) (Ss.go (F (n + 1)) [] b_same_for [some (.lst o (zs.map .int)), some (.lst o' (zs.map .int)), some (.int k), x3]) = _
    have e : Ss.go (F (n + 1)) [] b_same_for [some (.lst o (zs.map .int)), some (.lst o' (zs.map .int)), some (.int k), x3] = .nx [some (.lst false (zs.map .int)), some (.lst false (zs.map .int)), some (.int k), x3] := by
      simp only [b_same_for, clr_ints, ha, call_same_int, Hm.s_set, Hm.s_for, Hm.as_c, Hm.as_g, Hm.as_v, Hm.as_mv, Hm.as_u, Hm.as_b, Hm.as_ix, Hm.as_sl, Hm.as_ch, Hm.as_tb, Hm.as_ife, Hm.as_tup, Hm.as_lst, Hm.as_call, Hm.as_idx, Hm.as_lc, Hm.as_dE, Hm.as_sv, Hm.as_lr, Hm.go_ch, List.contains_nil, List.contains_cons, Nat.reduceBEq, List.any_cons, List.any_nil, beq_self_eq_true, Hm.go_c, Hm.go_g, Hm.go_v, Hm.go_mv, Hm.go_sv, Hm.go_u, Hm.go_b, Hm.go_ix, Hm.go_sl, Hm.go_tb, Hm.go_ife, Hm.go_tup, Hm.go_lst, Hm.go_call, Hm.go_idx, Hm.go_lc, Hm.go_dE, Hm.go_lr, Hm.tst_an, Hm.tst_or, Hm.tst_nt, Hm.tst_one, Hm.tst_e, Hm.val_an, Hm.val_or, Hm.val_nt, Hm.val_one, Hm.val_e, Hm.eo_no, Hm.eo_yes, Hm.to_no, Hm.to_yes, Hm.es_nil, Hm.es_cons, Hm.as_nil, Hm.as_io, Hm.as_ln, Hm.it_seq, Hm.it_scr, Hm.it_rng, Hm.it_enum, Hm.s_expr, Hm.s_ret, Hm.s_iff, Hm.s_app, Hm.s_put, Hm.s_pass, Hm.s_brk, Hm.s_cnt, Hm.ss_nil, Hm.ss_cons, Hm.kU_1, Hm.kU_2, Hm.kU_3, Hm.kB2_1, Hm.kB2_2, Hm.kB2_3, Hm.kB1_1, Hm.kB1_2, Hm.kB1_3, Hm.kI2_1, Hm.kI2_2, Hm.kI2_3, Hm.kI1_1, Hm.kI1_2, Hm.kI1_3, Hm.kS3_1, Hm.kS3_2, Hm.kS3_3, Hm.kS2_1, Hm.kS2_2, Hm.kS2_3, Hm.kS1_1, Hm.kS1_2, Hm.kS1_3, Hm.kC3_1, Hm.kC3_2, Hm.kC3_3, Hm.kC2'_1, Hm.kC2'_2, Hm.kC2_1, Hm.kC2_2, Hm.kC2_3, Hm.kC1_1, Hm.kC1_2, Hm.kC1_3, Hm.kTb_1, Hm.kTb_2, Hm.kTb_3, Hm.kIf_1, Hm.kIf_2, Hm.kIf_3, Hm.kIf_4, Hm.kTup_1, Hm.kTup_2, Hm.kTup_3, Hm.kLst_1, Hm.kLst_2, Hm.kLst_3, Hm.kCall_1, Hm.kCall_2, Hm.kCall_3, Hm.kX2_1, Hm.kX2_2, Hm.kX2_3, Hm.kX1_1, Hm.kX1_2, Hm.kX1_3, Hm.kL2_1, Hm.kL1_1, Hm.kL1_2, Hm.kL1_3, Hm.kLr_1, Hm.kLr_2, Hm.kLr_3, Hm.kOwn_1, Hm.kOwn_2, Hm.kOwn_3, Hm.kAn_1, Hm.kAn_2, Hm.kAn_3, Hm.kAn_4, Hm.kOr_1, Hm.kOr_2, Hm.kOr_3, Hm.kOr_4, Hm.kNt_1, Hm.kNt_2, Hm.kNt_3, Hm.kTr'_1, Hm.kTr'_2, Hm.kTr_1, Hm.kTr_2, Hm.kTr_3, Hm.kAnV_1, Hm.kAnV_2, Hm.kAnV_3, Hm.kAnV_4, Hm.kOrV_1, Hm.kOrV_2, Hm.kOrV_3, Hm.kOrV_4, Hm.kVl_1, Hm.kVl_2, Hm.kVl_3, Hm.kEo_1, Hm.kEo_2, Hm.kEo_3, Hm.kEs2_1, Hm.kEs2_2, Hm.kEs2_3, Hm.kEs1_1, Hm.kEs1_2, Hm.kEs1_3, Hm.kAs2_1, Hm.kAs2_2, Hm.kAs2_3, Hm.kAs1_1, Hm.kAs1_2, Hm.kAs1_3, Hm.kW_1, Hm.kW_2, Hm.kSq_1, Hm.kSq_2, Hm.kSq_3, Hm.kScr_1, Hm.kScr_2, Hm.kScr_3, Hm.kRg_1, Hm.kRg_2, Hm.kRg_3, Hm.kEn_1, Hm.kEn_2, Hm.kEn_3, Hm.kSet_1, Hm.kSet_2, Hm.kSet_3, Hm.kExp_1, Hm.kExp_2, Hm.kExp_3, Hm.kRet_1, Hm.kRet_2, Hm.kRet_3, Hm.kIff_1, Hm.kIff_2, Hm.kIff_3, Hm.kIff_4, Hm.kAp2_1, Hm.kAp1_1, Hm.kAp1_2, Hm.kAp1_3, Hm.kAp_1, Hm.kPl_1, Hm.kPl_2, Hm.kPd_1, Hm.kPd_2, Hm.kPk_1, Hm.kPk_2, Hm.kP3_1, Hm.kP3_2, Hm.kP2_1, Hm.kP2_2, Hm.kP2_3, Hm.kP1_1, Hm.kP1_2, Hm.kP1_3, Hm.kFor_1, Hm.kFor_2, Hm.kFor_3, Hm.kSeq_1, Hm.kSeq_2, Hm.kSeq_3, Hm.kSeq_4, Hm.kSeq_5, Hm.kSeq_6, Hm.kOp_s, Hm.kOp_n, Hm.kV_1, Hm.kMv_1, Hm.kSv_1, Hm.cr_1, Hm.cr_2, Hm.add_i, Hm.sub_i, Hm.mul_r, Hm.mul_l, Hm.mod_i, Hm.fdiv_i, Hm.lt_i, Hm.le_i, Hm.gt_i, Hm.ge_i, Hm.eq_i, Hm.eq_b, Hm.eq_s, Hm.ne_i, Hm.ne_b, Hm.min_i, Hm.max_i, Hm.isN_, Hm.notN_, Hm.neg_i, Hm.abs_i, Hm.int_i, Hm.int_b, Hm.len_l, Hm.len_t, Hm.ix_l, Hm.ix_t, Hm.tru_b, Hm.tru_i, Hm.own_i, Hm.ownV_v, Hm.lst_, Hm.tup_, Hm.sz_, Hm.join_s, Hm.join_n, Hm.at_0, Hm.at_1, Hm.at_2, Hm.at_3, Hm.at_4, Hm.at_5, Hm.at_6, Hm.at_7, Hm.at_8, Hm.at_9, Hm.at_10, Hm.at_11, Hm.at_12, Hm.at_13, Hm.at_14, Hm.at_15, Hm.at_16, Hm.at_17, Hm.at_18, Hm.at_19, Hm.at_20, Hm.at_21, Hm.at_22, Hm.at_23, Hm.at_24, Hm.at_25, Hm.ix5_0, Hm.ix5_1, Hm.ix5_2, Hm.ix5_3, Hm.ix5_4, Hm.pow_18, Hm.pow_39, Hm.pow_40, held, D.isC, isCs, E.pu, D.isNon, Cn.d, List.length_cons, List.length_nil, List.getElem?_cons_zero, List.getElem?_cons_succ, List.getElem?_nil, List.set_cons_zero, List.set_cons_succ, List.map_cons, List.map_nil, Option.map_some, Option.map_none, decide_eq_true_eq, Bool.true_and, Bool.and_true, Bool.false_and, Bool.and_false, Bool.not_true, Bool.not_false, Bool.or_true, Bool.true_or, Bool.or_false, Bool.false_or, or_true, true_or, or_false, false_or, and_true, true_and, Bool.false_eq_true, reduceCtorEq, not_true_eq_false, not_false_eq_true, Nat.reduceAdd, Nat.reduceLT, Nat.zero_add, eq_self, decide_true, decide_false, ↓reduceIte, Option.isSome_some, Option.isSome_none, ne_eq, Int.reduceNeg, Int.reducePow, Int.reduceLT, Int.reduceLE, Int.reduceEq, Int.reduceSub, Int.reduceAdd, Int.reduceMul, Nat.reducePow, Nat.reduceLeDiff]
    rw [e]
    exact ih false false _ _ fun j hj => hk j (List.mem_cons_of_mem _ hj)
theorem same_list (n : Nat) (o o' : Bool) (zs : List Int) (hz : zs.length < 1073741824) : F (n + 2) 8 [.lst o (zs.map .int), .lst o' (zs.map .int)] = .ok (.bl true) [none, none] := by
  rw [cl8, Df.run_eq _ _ _ rfl]
  show (Ss.go (F (n + 1)) [] b__law_same [some (.lst o (zs.map .int)), some (.lst o' (zs.map .int)), none, none]).toCR d__law_same = .ok (.bl true) [none, none]
  have h3 : (-4611686018427387904 ≤ ((zs.map D.int).length : Int)) = True := eq_true (by omega)
  have h4 : (((zs.map D.int).length : Int) < 4611686018427387904) = True := eq_true (by rw [List.length_map]; omega)
  obtain ⟨p, p', y, e⟩ := same_for n zs ((List.range (((zs.map D.int).length : Int)).toNat).map fun (i : Nat) => (i : Int)) o o' none none (fun k hk => by
    obtain ⟨i, hi, rfl⟩ := List.mem_map.mp hk
    rw [List.mem_range, List.length_map] at hi
    omega)
  rw [← range_ints] at e
  simp only [b_same_for] at e
  simp only [b__law_same, isi_, isiD, D.isi, h3, h4, e, bne_self_eq_false, Bool.true_bne, Bool.false_bne, Bool.not_false, Bool.not_true, Hm.s_set, Hm.s_for, Hm.as_c, Hm.as_g, Hm.as_v, Hm.as_mv, Hm.as_u, Hm.as_b, Hm.as_ix, Hm.as_sl, Hm.as_ch, Hm.as_tb, Hm.as_ife, Hm.as_tup, Hm.as_lst, Hm.as_call, Hm.as_idx, Hm.as_lc, Hm.as_dE, Hm.as_sv, Hm.as_lr, Hm.go_ch, List.contains_nil, List.contains_cons, Nat.reduceBEq, List.any_cons, List.any_nil, beq_self_eq_true, Hm.go_c, Hm.go_g, Hm.go_v, Hm.go_mv, Hm.go_sv, Hm.go_u, Hm.go_b, Hm.go_ix, Hm.go_sl, Hm.go_tb, Hm.go_ife, Hm.go_tup, Hm.go_lst, Hm.go_call, Hm.go_idx, Hm.go_lc, Hm.go_dE, Hm.go_lr, Hm.tst_an, Hm.tst_or, Hm.tst_nt, Hm.tst_one, Hm.tst_e, Hm.val_an, Hm.val_or, Hm.val_nt, Hm.val_one, Hm.val_e, Hm.eo_no, Hm.eo_yes, Hm.to_no, Hm.to_yes, Hm.es_nil, Hm.es_cons, Hm.as_nil, Hm.as_io, Hm.as_ln, Hm.it_seq, Hm.it_scr, Hm.it_rng, Hm.it_enum, Hm.s_expr, Hm.s_ret, Hm.s_iff, Hm.s_app, Hm.s_put, Hm.s_pass, Hm.s_brk, Hm.s_cnt, Hm.ss_nil, Hm.ss_cons, Hm.kU_1, Hm.kU_2, Hm.kU_3, Hm.kB2_1, Hm.kB2_2, Hm.kB2_3, Hm.kB1_1, Hm.kB1_2, Hm.kB1_3, Hm.kI2_1, Hm.kI2_2, Hm.kI2_3, Hm.kI1_1, Hm.kI1_2, Hm.kI1_3, Hm.kS3_1, Hm.kS3_2, Hm.kS3_3, Hm.kS2_1, Hm.kS2_2, Hm.kS2_3, Hm.kS1_1, Hm.kS1_2, Hm.kS1_3, Hm.kC3_1, Hm.kC3_2, Hm.kC3_3, Hm.kC2'_1, Hm.kC2'_2, Hm.kC2_1, Hm.kC2_2, Hm.kC2_3, Hm.kC1_1, Hm.kC1_2, Hm.kC1_3, Hm.kTb_1, Hm.kTb_2, Hm.kTb_3, Hm.kIf_1, Hm.kIf_2, Hm.kIf_3, Hm.kIf_4, Hm.kTup_1, Hm.kTup_2, Hm.kTup_3, Hm.kLst_1, Hm.kLst_2, Hm.kLst_3, Hm.kCall_1, Hm.kCall_2, Hm.kCall_3, Hm.kX2_1, Hm.kX2_2, Hm.kX2_3, Hm.kX1_1, Hm.kX1_2, Hm.kX1_3, Hm.kL2_1, Hm.kL1_1, Hm.kL1_2, Hm.kL1_3, Hm.kLr_1, Hm.kLr_2, Hm.kLr_3, Hm.kOwn_1, Hm.kOwn_2, Hm.kOwn_3, Hm.kAn_1, Hm.kAn_2, Hm.kAn_3, Hm.kAn_4, Hm.kOr_1, Hm.kOr_2, Hm.kOr_3, Hm.kOr_4, Hm.kNt_1, Hm.kNt_2, Hm.kNt_3, Hm.kTr'_1, Hm.kTr'_2, Hm.kTr_1, Hm.kTr_2, Hm.kTr_3, Hm.kAnV_1, Hm.kAnV_2, Hm.kAnV_3, Hm.kAnV_4, Hm.kOrV_1, Hm.kOrV_2, Hm.kOrV_3, Hm.kOrV_4, Hm.kVl_1, Hm.kVl_2, Hm.kVl_3, Hm.kEo_1, Hm.kEo_2, Hm.kEo_3, Hm.kEs2_1, Hm.kEs2_2, Hm.kEs2_3, Hm.kEs1_1, Hm.kEs1_2, Hm.kEs1_3, Hm.kAs2_1, Hm.kAs2_2, Hm.kAs2_3, Hm.kAs1_1, Hm.kAs1_2, Hm.kAs1_3, Hm.kW_1, Hm.kW_2, Hm.kSq_1, Hm.kSq_2, Hm.kSq_3, Hm.kScr_1, Hm.kScr_2, Hm.kScr_3, Hm.kRg_1, Hm.kRg_2, Hm.kRg_3, Hm.kEn_1, Hm.kEn_2, Hm.kEn_3, Hm.kSet_1, Hm.kSet_2, Hm.kSet_3, Hm.kExp_1, Hm.kExp_2, Hm.kExp_3, Hm.kRet_1, Hm.kRet_2, Hm.kRet_3, Hm.kIff_1, Hm.kIff_2, Hm.kIff_3, Hm.kIff_4, Hm.kAp2_1, Hm.kAp1_1, Hm.kAp1_2, Hm.kAp1_3, Hm.kAp_1, Hm.kPl_1, Hm.kPl_2, Hm.kPd_1, Hm.kPd_2, Hm.kPk_1, Hm.kPk_2, Hm.kP3_1, Hm.kP3_2, Hm.kP2_1, Hm.kP2_2, Hm.kP2_3, Hm.kP1_1, Hm.kP1_2, Hm.kP1_3, Hm.kFor_1, Hm.kFor_2, Hm.kFor_3, Hm.kSeq_1, Hm.kSeq_2, Hm.kSeq_3, Hm.kSeq_4, Hm.kSeq_5, Hm.kSeq_6, Hm.kOp_s, Hm.kOp_n, Hm.kV_1, Hm.kMv_1, Hm.kSv_1, Hm.cr_1, Hm.cr_2, Hm.add_i, Hm.sub_i, Hm.mul_r, Hm.mul_l, Hm.mod_i, Hm.fdiv_i, Hm.lt_i, Hm.le_i, Hm.gt_i, Hm.ge_i, Hm.eq_i, Hm.eq_b, Hm.eq_s, Hm.ne_i, Hm.ne_b, Hm.min_i, Hm.max_i, Hm.isN_, Hm.notN_, Hm.neg_i, Hm.abs_i, Hm.int_i, Hm.int_b, Hm.len_l, Hm.len_t, Hm.ix_l, Hm.ix_t, Hm.tru_b, Hm.tru_i, Hm.own_i, Hm.ownV_v, Hm.lst_, Hm.tup_, Hm.sz_, Hm.join_s, Hm.join_n, Hm.at_0, Hm.at_1, Hm.at_2, Hm.at_3, Hm.at_4, Hm.at_5, Hm.at_6, Hm.at_7, Hm.at_8, Hm.at_9, Hm.at_10, Hm.at_11, Hm.at_12, Hm.at_13, Hm.at_14, Hm.at_15, Hm.at_16, Hm.at_17, Hm.at_18, Hm.at_19, Hm.at_20, Hm.at_21, Hm.at_22, Hm.at_23, Hm.at_24, Hm.at_25, Hm.ix5_0, Hm.ix5_1, Hm.ix5_2, Hm.ix5_3, Hm.ix5_4, Hm.pow_18, Hm.pow_39, Hm.pow_40, held, D.isC, isCs, E.pu, D.isNon, Cn.d, List.length_cons, List.length_nil, List.getElem?_cons_zero, List.getElem?_cons_succ, List.getElem?_nil, List.set_cons_zero, List.set_cons_succ, List.map_cons, List.map_nil, Option.map_some, Option.map_none, decide_eq_true_eq, Bool.true_and, Bool.and_true, Bool.false_and, Bool.and_false, Bool.not_true, Bool.not_false, Bool.or_true, Bool.true_or, Bool.or_false, Bool.false_or, or_true, true_or, or_false, false_or, and_true, true_and, Bool.false_eq_true, reduceCtorEq, not_true_eq_false, not_false_eq_true, Nat.reduceAdd, Nat.reduceLT, Nat.zero_add, eq_self, decide_true, decide_false, ↓reduceIte, Option.isSome_some, Option.isSome_none, ne_eq, Int.reduceNeg, Int.reducePow, Int.reduceLT, Int.reduceLE, Int.reduceEq, Int.reduceSub, Int.reduceAdd, Int.reduceMul, Nat.reducePow, Nat.reduceLeDiff]
  rfl
end Lw
end
section
set_option Elab.async false
set_option linter.all false
set_option maxRecDepth 100000
set_option maxHeartbeats 1000000
namespace Lw
open PySem PySem.Spec PyProof.Rows L2 Hm
theorem cl10 (n : Nat) (ds : List D) : F (n + 1) 10 ds = d__law_heights.run (F n) ds := rfl
theorem rng_l {m : Nat} : ((List.range m).map fun (i : Nat) => [D.int i]).length = m := by rw [List.length_map, List.length_range]
theorem heights (n : Nat) (s : D) (h : St s) (m : Int) (h0 : 0 ≤ m) (hm : m < 1000) : ∃ (zs : List Int) (s' : D), F (n + 5) 10 [s, .int m] = .ok (.lst true (zs.map .int)) [some s', none] ∧ St s' ∧ (zs.length : Int) = m := by
  rw [cl10, Df.run_eq _ _ _ rfl]
  show ∃ (zs : List Int) (s' : D), (Ss.go (F (n + 4)) [0] b__law_heights [some s, some (.int m), none, none, none, none]).toCR d__law_heights = .ok (.lst true (zs.map .int)) [some s', none] ∧ St s' ∧ (zs.length : Int) = m
  have c1 := call_take (n := n + 2) h (m := 8) (by decide) [some (.int m), none, none, none, none]
  have s1 := st_ts (n := n + 2) h (m := 8) (by decide)
  obtain ⟨e1, e2, e3, e4, e5⟩ := tk_eq (n := n + 2) h (m := 8) (by decide)
  generalize tk (n + 2) s 8 = t at *
  generalize ts (n + 2) s 8 = s₁ at *
  obtain ⟨b, s2, hb, s2h, c2⟩ := pickI (n + 1) s₁ s1 true [0, 0, 0, -2, 3, 9995, -9999, 120] (by decide) (by decide)
  have c2 := c2 [some (.int m), some (.int t), none, none, none]
  simp only [List.map_cons, List.map_nil] at c2
  have w1 : ∀ s x1 x2 x3 x4 x5, wipeE [s, x1, x2, x3, x4, x5] [5] = [s, x1, x2, x3, x4, none] := fun _ _ _ _ _ _ => rfl
  have r1 : (-4611686018427387904 ≤ m) = True := eq_true (by omega)
  have r2 : (m < 4611686018427387904) = True := eq_true (by omega)
  have r3 : (0 ≤ m) = True := eq_true h0
  have r4 : (m ≤ 16777216) = True := eq_true (by omega)
  have hl := rng_l (m := m.toNat)
  have key : ∀ (el : E) (x4 : Option D), (∀ s (i : Int), St s → 0 ≤ i → i < m → ∃ (z : Int) (s' : D), kOwn el (E.go (F (n + 4)) el [some s, some (.int m), some (.int t), some (.int b), x4, some (.int i)]) = .ok (.int z) [some s', some (.int m), some (.int t), some (.int b), x4, some (.int i)] ∧ St s') →
      ∀ s, St s → ∃ (zs : List Int) (s' : D), lcG (F (n + 4)) [5] el .no ((List.range m.toNat).map fun (i : Nat) => [.int i]) [some s, some (.int m), some (.int t), some (.int b), x4, none] [] = .ok (zs.map .int) [some s', some (.int m), some (.int t), some (.int b), x4, none] ∧ St s' ∧ (zs.length : Int) = m := by
    intro el x4 q s hs
    obtain ⟨zs, ρ', e, ⟨s', hs', rfl⟩, hn, _⟩ := lc_inv (F := F (n + 4)) (tg := [5]) (el := el) D.int (fun ρ => ∃ s, St s ∧ ρ = [some s, some (.int m), some (.int t), some (.int b), x4, none]) (fun _ => True) ((List.range m.toNat).map fun (i : Nat) => [.int i]) _ [] ⟨s, hs, rfl⟩ (by rw [hl, List.length_nil]; omega) (by
      rintro x hx ρ ⟨s, hs, rfl⟩
      obtain ⟨i, hi, rfl⟩ := List.mem_map.mp hx
      rw [List.mem_range] at hi
      obtain ⟨z, s', e, hs'⟩ := q s i hs (by omega) (by omega)
      exact ⟨rfl, rfl, z, _, e, ⟨s', hs', rfl⟩, trivial⟩)
    exact ⟨zs, s', e, hs', by rw [hn, hl]; omega⟩
  by_cases h0' : t = 0
  · obtain ⟨zs, s', e, hs', hn⟩ := key (.v 3) none (fun s i hs i0 i1 => ⟨b, s, by simp only [Hm.s_set, Hm.s_for, Hm.as_c, Hm.as_g, Hm.as_v, Hm.as_mv, Hm.as_u, Hm.as_b, Hm.as_ix, Hm.as_sl, Hm.as_ch, Hm.as_tb, Hm.as_ife, Hm.as_tup, Hm.as_lst, Hm.as_call, Hm.as_idx, Hm.as_lc, Hm.as_dE, Hm.as_sv, Hm.as_lr, Hm.go_ch, List.contains_nil, List.contains_cons, Nat.reduceBEq, List.any_cons, List.any_nil, beq_self_eq_true, Hm.go_c, Hm.go_g, Hm.go_v, Hm.go_mv, Hm.go_sv, Hm.go_u, Hm.go_b, Hm.go_ix, Hm.go_sl, Hm.go_tb, Hm.go_ife, Hm.go_tup, Hm.go_lst, Hm.go_call, Hm.go_idx, Hm.go_lc, Hm.go_dE, Hm.go_lr, Hm.tst_an, Hm.tst_or, Hm.tst_nt, Hm.tst_one, Hm.tst_e, Hm.val_an, Hm.val_or, Hm.val_nt, Hm.val_one, Hm.val_e, Hm.eo_no, Hm.eo_yes, Hm.to_no, Hm.to_yes, Hm.es_nil, Hm.es_cons, Hm.as_nil, Hm.as_io, Hm.as_ln, Hm.it_seq, Hm.it_scr, Hm.it_rng, Hm.it_enum, Hm.s_expr, Hm.s_ret, Hm.s_iff, Hm.s_app, Hm.s_put, Hm.s_pass, Hm.s_brk, Hm.s_cnt, Hm.ss_nil, Hm.ss_cons, Hm.kU_1, Hm.kU_2, Hm.kU_3, Hm.kB2_1, Hm.kB2_2, Hm.kB2_3, Hm.kB1_1, Hm.kB1_2, Hm.kB1_3, Hm.kI2_1, Hm.kI2_2, Hm.kI2_3, Hm.kI1_1, Hm.kI1_2, Hm.kI1_3, Hm.kS3_1, Hm.kS3_2, Hm.kS3_3, Hm.kS2_1, Hm.kS2_2, Hm.kS2_3, Hm.kS1_1, Hm.kS1_2, Hm.kS1_3, Hm.kC3_1, Hm.kC3_2, Hm.kC3_3, Hm.kC2'_1, Hm.kC2'_2, Hm.kC2_1, Hm.kC2_2, Hm.kC2_3, Hm.kC1_1, Hm.kC1_2, Hm.kC1_3, Hm.kTb_1, Hm.kTb_2, Hm.kTb_3, Hm.kIf_1, Hm.kIf_2, Hm.kIf_3, Hm.kIf_4, Hm.kTup_1, Hm.kTup_2, Hm.kTup_3, Hm.kLst_1, Hm.kLst_2, Hm.kLst_3, Hm.kCall_1, Hm.kCall_2, Hm.kCall_3, Hm.kX2_1, Hm.kX2_2, Hm.kX2_3, Hm.kX1_1, Hm.kX1_2, Hm.kX1_3, Hm.kL2_1, Hm.kL1_1, Hm.kL1_2, Hm.kL1_3, Hm.kLr_1, Hm.kLr_2, Hm.kLr_3, Hm.kOwn_1, Hm.kOwn_2, Hm.kOwn_3, Hm.kAn_1, Hm.kAn_2, Hm.kAn_3, Hm.kAn_4, Hm.kOr_1, Hm.kOr_2, Hm.kOr_3, Hm.kOr_4, Hm.kNt_1, Hm.kNt_2, Hm.kNt_3, Hm.kTr'_1, Hm.kTr'_2, Hm.kTr_1, Hm.kTr_2, Hm.kTr_3, Hm.kAnV_1, Hm.kAnV_2, Hm.kAnV_3, Hm.kAnV_4, Hm.kOrV_1, Hm.kOrV_2, Hm.kOrV_3, Hm.kOrV_4, Hm.kVl_1, Hm.kVl_2, Hm.kVl_3, Hm.kEo_1, Hm.kEo_2, Hm.kEo_3, Hm.kEs2_1, Hm.kEs2_2, Hm.kEs2_3, Hm.kEs1_1, Hm.kEs1_2, Hm.kEs1_3, Hm.kAs2_1, Hm.kAs2_2, Hm.kAs2_3, Hm.kAs1_1, Hm.kAs1_2, Hm.kAs1_3, Hm.kW_1, Hm.kW_2, Hm.kSq_1, Hm.kSq_2, Hm.kSq_3, Hm.kScr_1, Hm.kScr_2, Hm.kScr_3, Hm.kRg_1, Hm.kRg_2, Hm.kRg_3, Hm.kEn_1, Hm.kEn_2, Hm.kEn_3, Hm.kSet_1, Hm.kSet_2, Hm.kSet_3, Hm.kExp_1, Hm.kExp_2, Hm.kExp_3, Hm.kRet_1, Hm.kRet_2, Hm.kRet_3, Hm.kIff_1, Hm.kIff_2, Hm.kIff_3, Hm.kIff_4, Hm.kAp2_1, Hm.kAp1_1, Hm.kAp1_2, Hm.kAp1_3, Hm.kAp_1, Hm.kPl_1, Hm.kPl_2, Hm.kPd_1, Hm.kPd_2, Hm.kPk_1, Hm.kPk_2, Hm.kP3_1, Hm.kP3_2, Hm.kP2_1, Hm.kP2_2, Hm.kP2_3, Hm.kP1_1, Hm.kP1_2, Hm.kP1_3, Hm.kFor_1, Hm.kFor_2, Hm.kFor_3, Hm.kSeq_1, Hm.kSeq_2, Hm.kSeq_3, Hm.kSeq_4, Hm.kSeq_5, Hm.kSeq_6, Hm.kOp_s, Hm.kOp_n, Hm.kV_1, Hm.kMv_1, Hm.kSv_1, Hm.cr_1, Hm.cr_2, Hm.add_i, Hm.sub_i, Hm.mul_r, Hm.mul_l, Hm.mod_i, Hm.fdiv_i, Hm.lt_i, Hm.le_i, Hm.gt_i, Hm.ge_i, Hm.eq_i, Hm.eq_b, Hm.eq_s, Hm.ne_i, Hm.ne_b, Hm.min_i, Hm.max_i, Hm.isN_, Hm.notN_, Hm.neg_i, Hm.abs_i, Hm.int_i, Hm.int_b, Hm.len_l, Hm.len_t, Hm.ix_l, Hm.ix_t, Hm.tru_b, Hm.tru_i, Hm.own_i, Hm.ownV_v, Hm.lst_, Hm.tup_, Hm.sz_, Hm.join_s, Hm.join_n, Hm.at_0, Hm.at_1, Hm.at_2, Hm.at_3, Hm.at_4, Hm.at_5, Hm.at_6, Hm.at_7, Hm.at_8, Hm.at_9, Hm.at_10, Hm.at_11, Hm.at_12, Hm.at_13, Hm.at_14, Hm.at_15, Hm.at_16, Hm.at_17, Hm.at_18, Hm.at_19, Hm.at_20, Hm.at_21, Hm.at_22, Hm.at_23, Hm.at_24, Hm.at_25, Hm.ix5_0, Hm.ix5_1, Hm.ix5_2, Hm.ix5_3, Hm.ix5_4, Hm.pow_18, Hm.pow_39, Hm.pow_40, held, D.isC, isCs, E.pu, D.isNon, Cn.d, List.length_cons, List.length_nil, List.getElem?_cons_zero, List.getElem?_cons_succ, List.getElem?_nil, List.set_cons_zero, List.set_cons_succ, List.map_cons, List.map_nil, Option.map_some, Option.map_none, decide_eq_true_eq, Bool.true_and, Bool.and_true, Bool.false_and, Bool.and_false, Bool.not_true, Bool.not_false, Bool.or_true, Bool.true_or, Bool.or_false, Bool.false_or, or_true, true_or, or_false, false_or, and_true, true_and, Bool.false_eq_true, reduceCtorEq, not_true_eq_false, not_false_eq_true, Nat.reduceAdd, Nat.reduceLT, Nat.zero_add, eq_self, decide_true, decide_false, ↓reduceIte, Option.isSome_some, Option.isSome_none, ne_eq, Int.reduceNeg, Int.reducePow, Int.reduceLT, Int.reduceLE, Int.reduceEq, Int.reduceSub, Int.reduceAdd, Int.reduceMul, Nat.reducePow, Nat.reduceLeDiff], hs⟩) s2 s2h
    rw [h0'] at e c2
    simp only [b__law_heights, c1, c2, h0', r1, r2, w1, e, Hm.s_set, Hm.s_for, Hm.as_c, Hm.as_g, Hm.as_v, Hm.as_mv, Hm.as_u, Hm.as_b, Hm.as_ix, Hm.as_sl, Hm.as_ch, Hm.as_tb, Hm.as_ife, Hm.as_tup, Hm.as_lst, Hm.as_call, Hm.as_idx, Hm.as_lc, Hm.as_dE, Hm.as_sv, Hm.as_lr, Hm.go_ch, List.contains_nil, List.contains_cons, Nat.reduceBEq, List.any_cons, List.any_nil, beq_self_eq_true, Hm.go_c, Hm.go_g, Hm.go_v, Hm.go_mv, Hm.go_sv, Hm.go_u, Hm.go_b, Hm.go_ix, Hm.go_sl, Hm.go_tb, Hm.go_ife, Hm.go_tup, Hm.go_lst, Hm.go_call, Hm.go_idx, Hm.go_lc, Hm.go_dE, Hm.go_lr, Hm.tst_an, Hm.tst_or, Hm.tst_nt, Hm.tst_one, Hm.tst_e, Hm.val_an, Hm.val_or, Hm.val_nt, Hm.val_one, Hm.val_e, Hm.eo_no, Hm.eo_yes, Hm.to_no, Hm.to_yes, Hm.es_nil, Hm.es_cons, Hm.as_nil, Hm.as_io, Hm.as_ln, Hm.it_seq, Hm.it_scr, Hm.it_rng, Hm.it_enum, Hm.s_expr, Hm.s_ret, Hm.s_iff, Hm.s_app, Hm.s_put, Hm.s_pass, Hm.s_brk, Hm.s_cnt, Hm.ss_nil, Hm.ss_cons, Hm.kU_1, Hm.kU_2, Hm.kU_3, Hm.kB2_1, Hm.kB2_2, Hm.kB2_3, Hm.kB1_1, Hm.kB1_2, Hm.kB1_3, Hm.kI2_1, Hm.kI2_2, Hm.kI2_3, Hm.kI1_1, Hm.kI1_2, Hm.kI1_3, Hm.kS3_1, Hm.kS3_2, Hm.kS3_3, Hm.kS2_1, Hm.kS2_2, Hm.kS2_3, Hm.kS1_1, Hm.kS1_2, Hm.kS1_3, Hm.kC3_1, Hm.kC3_2, Hm.kC3_3, Hm.kC2'_1, Hm.kC2'_2, Hm.kC2_1, Hm.kC2_2, Hm.kC2_3, Hm.kC1_1, Hm.kC1_2, Hm.kC1_3, Hm.kTb_1, Hm.kTb_2, Hm.kTb_3, Hm.kIf_1, Hm.kIf_2, Hm.kIf_3, Hm.kIf_4, Hm.kTup_1, Hm.kTup_2, Hm.kTup_3, Hm.kLst_1, Hm.kLst_2, Hm.kLst_3, Hm.kCall_1, Hm.kCall_2, Hm.kCall_3, Hm.kX2_1, Hm.kX2_2, Hm.kX2_3, Hm.kX1_1, Hm.kX1_2, Hm.kX1_3, Hm.kL2_1, Hm.kL1_1, Hm.kL1_2, Hm.kL1_3, Hm.kLr_1, Hm.kLr_2, Hm.kLr_3, Hm.kOwn_1, Hm.kOwn_2, Hm.kOwn_3, Hm.kAn_1, Hm.kAn_2, Hm.kAn_3, Hm.kAn_4, Hm.kOr_1, Hm.kOr_2, Hm.kOr_3, Hm.kOr_4, Hm.kNt_1, Hm.kNt_2, Hm.kNt_3, Hm.kTr'_1, Hm.kTr'_2, Hm.kTr_1, Hm.kTr_2, Hm.kTr_3, Hm.kAnV_1, Hm.kAnV_2, Hm.kAnV_3, Hm.kAnV_4, Hm.kOrV_1, Hm.kOrV_2, Hm.kOrV_3, Hm.kOrV_4, Hm.kVl_1, Hm.kVl_2, Hm.kVl_3, Hm.kEo_1, Hm.kEo_2, Hm.kEo_3, Hm.kEs2_1, Hm.kEs2_2, Hm.kEs2_3, Hm.kEs1_1, Hm.kEs1_2, Hm.kEs1_3, Hm.kAs2_1, Hm.kAs2_2, Hm.kAs2_3, Hm.kAs1_1, Hm.kAs1_2, Hm.kAs1_3, Hm.kW_1, Hm.kW_2, Hm.kSq_1, Hm.kSq_2, Hm.kSq_3, Hm.kScr_1, Hm.kScr_2, Hm.kScr_3, Hm.kRg_1, Hm.kRg_2, Hm.kRg_3, Hm.kEn_1, Hm.kEn_2, Hm.kEn_3, Hm.kSet_1, Hm.kSet_2, Hm.kSet_3, Hm.kExp_1, Hm.kExp_2, Hm.kExp_3, Hm.kRet_1, Hm.kRet_2, Hm.kRet_3, Hm.kIff_1, Hm.kIff_2, Hm.kIff_3, Hm.kIff_4, Hm.kAp2_1, Hm.kAp1_1, Hm.kAp1_2, Hm.kAp1_3, Hm.kAp_1, Hm.kPl_1, Hm.kPl_2, Hm.kPd_1, Hm.kPd_2, Hm.kPk_1, Hm.kPk_2, Hm.kP3_1, Hm.kP3_2, Hm.kP2_1, Hm.kP2_2, Hm.kP2_3, Hm.kP1_1, Hm.kP1_2, Hm.kP1_3, Hm.kFor_1, Hm.kFor_2, Hm.kFor_3, Hm.kSeq_1, Hm.kSeq_2, Hm.kSeq_3, Hm.kSeq_4, Hm.kSeq_5, Hm.kSeq_6, Hm.kOp_s, Hm.kOp_n, Hm.kV_1, Hm.kMv_1, Hm.kSv_1, Hm.cr_1, Hm.cr_2, Hm.add_i, Hm.sub_i, Hm.mul_r, Hm.mul_l, Hm.mod_i, Hm.fdiv_i, Hm.lt_i, Hm.le_i, Hm.gt_i, Hm.ge_i, Hm.eq_i, Hm.eq_b, Hm.eq_s, Hm.ne_i, Hm.ne_b, Hm.min_i, Hm.max_i, Hm.isN_, Hm.notN_, Hm.neg_i, Hm.abs_i, Hm.int_i, Hm.int_b, Hm.len_l, Hm.len_t, Hm.ix_l, Hm.ix_t, Hm.tru_b, Hm.tru_i, Hm.own_i, Hm.ownV_v, Hm.lst_, Hm.tup_, Hm.sz_, Hm.join_s, Hm.join_n, Hm.at_0, Hm.at_1, Hm.at_2, Hm.at_3, Hm.at_4, Hm.at_5, Hm.at_6, Hm.at_7, Hm.at_8, Hm.at_9, Hm.at_10, Hm.at_11, Hm.at_12, Hm.at_13, Hm.at_14, Hm.at_15, Hm.at_16, Hm.at_17, Hm.at_18, Hm.at_19, Hm.at_20, Hm.at_21, Hm.at_22, Hm.at_23, Hm.at_24, Hm.at_25, Hm.ix5_0, Hm.ix5_1, Hm.ix5_2, Hm.ix5_3, Hm.ix5_4, Hm.pow_18, Hm.pow_39, Hm.pow_40, held, D.isC, isCs, E.pu, D.isNon, Cn.d, List.length_cons, List.length_nil, List.getElem?_cons_zero, List.getElem?_cons_succ, List.getElem?_nil, List.set_cons_zero, List.set_cons_succ, List.map_cons, List.map_nil, Option.map_some, Option.map_none, decide_eq_true_eq, Bool.true_and, Bool.and_true, Bool.false_and, Bool.and_false, Bool.not_true, Bool.not_false, Bool.or_true, Bool.true_or, Bool.or_false, Bool.false_or, or_true, true_or, or_false, false_or, and_true, true_and, Bool.false_eq_true, reduceCtorEq, not_true_eq_false, not_false_eq_true, Nat.reduceAdd, Nat.reduceLT, Nat.zero_add, eq_self, decide_true, decide_false, ↓reduceIte, Option.isSome_some, Option.isSome_none, ne_eq, Int.reduceNeg, Int.reducePow, Int.reduceLT, Int.reduceLE, Int.reduceEq, Int.reduceSub, Int.reduceAdd, Int.reduceMul, Nat.reducePow, Nat.reduceLeDiff]
    exact ⟨_, _, rfl, hs', hn⟩
  · by_cases h1 : t = 1
    · obtain ⟨zs, s', e, hs', hn⟩ := key _ none (fun s i hs i0 i1 => ⟨b + 4 * tk (n + 2) s 2, ts (n + 2) s 2, by
        have c3 := call_take (n := n + 2) hs (m := 2) (by decide) [some (.int m), some (.int t), some (.int b), none, some (.int i)]
        show kOwn (.b .add (.v 3) (.b .mul (.c (.int 4)) (.call 3 (.cons (.io 0) (.cons (.c (.int 2)) .nil))))) _ = _
        simp only [c3, Hm.s_set, Hm.s_for, Hm.as_c, Hm.as_g, Hm.as_v, Hm.as_mv, Hm.as_u, Hm.as_b, Hm.as_ix, Hm.as_sl, Hm.as_ch, Hm.as_tb, Hm.as_ife, Hm.as_tup, Hm.as_lst, Hm.as_call, Hm.as_idx, Hm.as_lc, Hm.as_dE, Hm.as_sv, Hm.as_lr, Hm.go_ch, List.contains_nil, List.contains_cons, Nat.reduceBEq, List.any_cons, List.any_nil, beq_self_eq_true, Hm.go_c, Hm.go_g, Hm.go_v, Hm.go_mv, Hm.go_sv, Hm.go_u, Hm.go_b, Hm.go_ix, Hm.go_sl, Hm.go_tb, Hm.go_ife, Hm.go_tup, Hm.go_lst, Hm.go_call, Hm.go_idx, Hm.go_lc, Hm.go_dE, Hm.go_lr, Hm.tst_an, Hm.tst_or, Hm.tst_nt, Hm.tst_one, Hm.tst_e, Hm.val_an, Hm.val_or, Hm.val_nt, Hm.val_one, Hm.val_e, Hm.eo_no, Hm.eo_yes, Hm.to_no, Hm.to_yes, Hm.es_nil, Hm.es_cons, Hm.as_nil, Hm.as_io, Hm.as_ln, Hm.it_seq, Hm.it_scr, Hm.it_rng, Hm.it_enum, Hm.s_expr, Hm.s_ret, Hm.s_iff, Hm.s_app, Hm.s_put, Hm.s_pass, Hm.s_brk, Hm.s_cnt, Hm.ss_nil, Hm.ss_cons, Hm.kU_1, Hm.kU_2, Hm.kU_3, Hm.kB2_1, Hm.kB2_2, Hm.kB2_3, Hm.kB1_1, Hm.kB1_2, Hm.kB1_3, Hm.kI2_1, Hm.kI2_2, Hm.kI2_3, Hm.kI1_1, Hm.kI1_2, Hm.kI1_3, Hm.kS3_1, Hm.kS3_2, Hm.kS3_3, Hm.kS2_1, Hm.kS2_2, Hm.kS2_3, Hm.kS1_1, Hm.kS1_2, Hm.kS1_3, Hm.kC3_1, Hm.kC3_2, Hm.kC3_3, Hm.kC2'_1, Hm.kC2'_2, Hm.kC2_1, Hm.kC2_2, Hm.kC2_3, Hm.kC1_1, Hm.kC1_2, Hm.kC1_3, Hm.kTb_1, Hm.kTb_2, Hm.kTb_3, Hm.kIf_1, Hm.kIf_2, Hm.kIf_3, Hm.kIf_4, Hm.kTup_1, Hm.kTup_2, Hm.kTup_3, Hm.kLst_1, Hm.kLst_2, Hm.kLst_3, Hm.kCall_1, Hm.kCall_2, Hm.kCall_3, Hm.kX2_1, Hm.kX2_2, Hm.kX2_3, Hm.kX1_1, Hm.kX1_2, Hm.kX1_3, Hm.kL2_1, Hm.kL1_1, Hm.kL1_2, Hm.kL1_3, Hm.kLr_1, Hm.kLr_2, Hm.kLr_3, Hm.kOwn_1, Hm.kOwn_2, Hm.kOwn_3, Hm.kAn_1, Hm.kAn_2, Hm.kAn_3, Hm.kAn_4, Hm.kOr_1, Hm.kOr_2, Hm.kOr_3, Hm.kOr_4, Hm.kNt_1, Hm.kNt_2, Hm.kNt_3, Hm.kTr'_1, Hm.kTr'_2, Hm.kTr_1, Hm.kTr_2, Hm.kTr_3, Hm.kAnV_1, Hm.kAnV_2, Hm.kAnV_3, Hm.kAnV_4, Hm.kOrV_1, Hm.kOrV_2, Hm.kOrV_3, Hm.kOrV_4, Hm.kVl_1, Hm.kVl_2, Hm.kVl_3, Hm.kEo_1, Hm.kEo_2, Hm.kEo_3, Hm.kEs2_1, Hm.kEs2_2, Hm.kEs2_3, Hm.kEs1_1, Hm.kEs1_2, Hm.kEs1_3, Hm.kAs2_1, Hm.kAs2_2, Hm.kAs2_3, Hm.kAs1_1, Hm.kAs1_2, Hm.kAs1_3, Hm.kW_1, Hm.kW_2, Hm.kSq_1, Hm.kSq_2, Hm.kSq_3, Hm.kScr_1, Hm.kScr_2, Hm.kScr_3, Hm.kRg_1, Hm.kRg_2, Hm.kRg_3, Hm.kEn_1, Hm.kEn_2, Hm.kEn_3, Hm.kSet_1, Hm.kSet_2, Hm.kSet_3, Hm.kExp_1, Hm.kExp_2, Hm.kExp_3, Hm.kRet_1, Hm.kRet_2, Hm.kRet_3, Hm.kIff_1, Hm.kIff_2, Hm.kIff_3, Hm.kIff_4, Hm.kAp2_1, Hm.kAp1_1, Hm.kAp1_2, Hm.kAp1_3, Hm.kAp_1, Hm.kPl_1, Hm.kPl_2, Hm.kPd_1, Hm.kPd_2, Hm.kPk_1, Hm.kPk_2, Hm.kP3_1, Hm.kP3_2, Hm.kP2_1, Hm.kP2_2, Hm.kP2_3, Hm.kP1_1, Hm.kP1_2, Hm.kP1_3, Hm.kFor_1, Hm.kFor_2, Hm.kFor_3, Hm.kSeq_1, Hm.kSeq_2, Hm.kSeq_3, Hm.kSeq_4, Hm.kSeq_5, Hm.kSeq_6, Hm.kOp_s, Hm.kOp_n, Hm.kV_1, Hm.kMv_1, Hm.kSv_1, Hm.cr_1, Hm.cr_2, Hm.add_i, Hm.sub_i, Hm.mul_r, Hm.mul_l, Hm.mod_i, Hm.fdiv_i, Hm.lt_i, Hm.le_i, Hm.gt_i, Hm.ge_i, Hm.eq_i, Hm.eq_b, Hm.eq_s, Hm.ne_i, Hm.ne_b, Hm.min_i, Hm.max_i, Hm.isN_, Hm.notN_, Hm.neg_i, Hm.abs_i, Hm.int_i, Hm.int_b, Hm.len_l, Hm.len_t, Hm.ix_l, Hm.ix_t, Hm.tru_b, Hm.tru_i, Hm.own_i, Hm.ownV_v, Hm.lst_, Hm.tup_, Hm.sz_, Hm.join_s, Hm.join_n, Hm.at_0, Hm.at_1, Hm.at_2, Hm.at_3, Hm.at_4, Hm.at_5, Hm.at_6, Hm.at_7, Hm.at_8, Hm.at_9, Hm.at_10, Hm.at_11, Hm.at_12, Hm.at_13, Hm.at_14, Hm.at_15, Hm.at_16, Hm.at_17, Hm.at_18, Hm.at_19, Hm.at_20, Hm.at_21, Hm.at_22, Hm.at_23, Hm.at_24, Hm.at_25, Hm.ix5_0, Hm.ix5_1, Hm.ix5_2, Hm.ix5_3, Hm.ix5_4, Hm.pow_18, Hm.pow_39, Hm.pow_40, held, D.isC, isCs, E.pu, D.isNon, Cn.d, List.length_cons, List.length_nil, List.getElem?_cons_zero, List.getElem?_cons_succ, List.getElem?_nil, List.set_cons_zero, List.set_cons_succ, List.map_cons, List.map_nil, Option.map_some, Option.map_none, decide_eq_true_eq, Bool.true_and, Bool.and_true, Bool.false_and, Bool.and_false, Bool.not_true, Bool.not_false, Bool.or_true, Bool.true_or, Bool.or_false, Bool.false_or, or_true, true_or, or_false, false_or, and_true, true_and, Bool.false_eq_true, reduceCtorEq, not_true_eq_false, not_false_eq_true, Nat.reduceAdd, Nat.reduceLT, Nat.zero_add, eq_self, decide_true, decide_false, ↓reduceIte, Option.isSome_some, Option.isSome_none, ne_eq, Int.reduceNeg, Int.reducePow, Int.reduceLT, Int.reduceLE, Int.reduceEq, Int.reduceSub, Int.reduceAdd, Int.reduceMul, Nat.reducePow, Nat.reduceLeDiff], st_ts (n := n + 2) hs (m := 2) (by decide)⟩) s2 s2h
      rw [h1] at e c2
      simp only [b__law_heights, c1, c2, h1, r1, r2, w1, e, Hm.s_set, Hm.s_for, Hm.as_c, Hm.as_g, Hm.as_v, Hm.as_mv, Hm.as_u, Hm.as_b, Hm.as_ix, Hm.as_sl, Hm.as_ch, Hm.as_tb, Hm.as_ife, Hm.as_tup, Hm.as_lst, Hm.as_call, Hm.as_idx, Hm.as_lc, Hm.as_dE, Hm.as_sv, Hm.as_lr, Hm.go_ch, List.contains_nil, List.contains_cons, Nat.reduceBEq, List.any_cons, List.any_nil, beq_self_eq_true, Hm.go_c, Hm.go_g, Hm.go_v, Hm.go_mv, Hm.go_sv, Hm.go_u, Hm.go_b, Hm.go_ix, Hm.go_sl, Hm.go_tb, Hm.go_ife, Hm.go_tup, Hm.go_lst, Hm.go_call, Hm.go_idx, Hm.go_lc, Hm.go_dE, Hm.go_lr, Hm.tst_an, Hm.tst_or, Hm.tst_nt, Hm.tst_one, Hm.tst_e, Hm.val_an, Hm.val_or, Hm.val_nt, Hm.val_one, Hm.val_e, Hm.eo_no, Hm.eo_yes, Hm.to_no, Hm.to_yes, Hm.es_nil, Hm.es_cons, Hm.as_nil, Hm.as_io, Hm.as_ln, Hm.it_seq, Hm.it_scr, Hm.it_rng, Hm.it_enum, Hm.s_expr, Hm.s_ret, Hm.s_iff, Hm.s_app, Hm.s_put, Hm.s_pass, Hm.s_brk, Hm.s_cnt, Hm.ss_nil, Hm.ss_cons, Hm.kU_1, Hm.kU_2, Hm.kU_3, Hm.kB2_1, Hm.kB2_2, Hm.kB2_3, Hm.kB1_1, Hm.kB1_2, Hm.kB1_3, Hm.kI2_1, Hm.kI2_2, Hm.kI2_3, Hm.kI1_1, Hm.kI1_2, Hm.kI1_3, Hm.kS3_1, Hm.kS3_2, Hm.kS3_3, Hm.kS2_1, Hm.kS2_2, Hm.kS2_3, Hm.kS1_1, Hm.kS1_2, Hm.kS1_3, Hm.kC3_1, Hm.kC3_2, Hm.kC3_3, Hm.kC2'_1, Hm.kC2'_2, Hm.kC2_1, Hm.kC2_2, Hm.kC2_3, Hm.kC1_1, Hm.kC1_2, Hm.kC1_3, Hm.kTb_1, Hm.kTb_2, Hm.kTb_3, Hm.kIf_1, Hm.kIf_2, Hm.kIf_3, Hm.kIf_4, Hm.kTup_1, Hm.kTup_2, Hm.kTup_3, Hm.kLst_1, Hm.kLst_2, Hm.kLst_3, Hm.kCall_1, Hm.kCall_2, Hm.kCall_3, Hm.kX2_1, Hm.kX2_2, Hm.kX2_3, Hm.kX1_1, Hm.kX1_2, Hm.kX1_3, Hm.kL2_1, Hm.kL1_1, Hm.kL1_2, Hm.kL1_3, Hm.kLr_1, Hm.kLr_2, Hm.kLr_3, Hm.kOwn_1, Hm.kOwn_2, Hm.kOwn_3, Hm.kAn_1, Hm.kAn_2, Hm.kAn_3, Hm.kAn_4, Hm.kOr_1, Hm.kOr_2, Hm.kOr_3, Hm.kOr_4, Hm.kNt_1, Hm.kNt_2, Hm.kNt_3, Hm.kTr'_1, Hm.kTr'_2, Hm.kTr_1, Hm.kTr_2, Hm.kTr_3, Hm.kAnV_1, Hm.kAnV_2, Hm.kAnV_3, Hm.kAnV_4, Hm.kOrV_1, Hm.kOrV_2, Hm.kOrV_3, Hm.kOrV_4, Hm.kVl_1, Hm.kVl_2, Hm.kVl_3, Hm.kEo_1, Hm.kEo_2, Hm.kEo_3, Hm.kEs2_1, Hm.kEs2_2, Hm.kEs2_3, Hm.kEs1_1, Hm.kEs1_2, Hm.kEs1_3, Hm.kAs2_1, Hm.kAs2_2, Hm.kAs2_3, Hm.kAs1_1, Hm.kAs1_2, Hm.kAs1_3, Hm.kW_1, Hm.kW_2, Hm.kSq_1, Hm.kSq_2, Hm.kSq_3, Hm.kScr_1, Hm.kScr_2, Hm.kScr_3, Hm.kRg_1, Hm.kRg_2, Hm.kRg_3, Hm.kEn_1, Hm.kEn_2, Hm.kEn_3, Hm.kSet_1, Hm.kSet_2, Hm.kSet_3, Hm.kExp_1, Hm.kExp_2, Hm.kExp_3, Hm.kRet_1, Hm.kRet_2, Hm.kRet_3, Hm.kIff_1, Hm.kIff_2, Hm.kIff_3, Hm.kIff_4, Hm.kAp2_1, Hm.kAp1_1, Hm.kAp1_2, Hm.kAp1_3, Hm.kAp_1, Hm.kPl_1, Hm.kPl_2, Hm.kPd_1, Hm.kPd_2, Hm.kPk_1, Hm.kPk_2, Hm.kP3_1, Hm.kP3_2, Hm.kP2_1, Hm.kP2_2, Hm.kP2_3, Hm.kP1_1, Hm.kP1_2, Hm.kP1_3, Hm.kFor_1, Hm.kFor_2, Hm.kFor_3, Hm.kSeq_1, Hm.kSeq_2, Hm.kSeq_3, Hm.kSeq_4, Hm.kSeq_5, Hm.kSeq_6, Hm.kOp_s, Hm.kOp_n, Hm.kV_1, Hm.kMv_1, Hm.kSv_1, Hm.cr_1, Hm.cr_2, Hm.add_i, Hm.sub_i, Hm.mul_r, Hm.mul_l, Hm.mod_i, Hm.fdiv_i, Hm.lt_i, Hm.le_i, Hm.gt_i, Hm.ge_i, Hm.eq_i, Hm.eq_b, Hm.eq_s, Hm.ne_i, Hm.ne_b, Hm.min_i, Hm.max_i, Hm.isN_, Hm.notN_, Hm.neg_i, Hm.abs_i, Hm.int_i, Hm.int_b, Hm.len_l, Hm.len_t, Hm.ix_l, Hm.ix_t, Hm.tru_b, Hm.tru_i, Hm.own_i, Hm.ownV_v, Hm.lst_, Hm.tup_, Hm.sz_, Hm.join_s, Hm.join_n, Hm.at_0, Hm.at_1, Hm.at_2, Hm.at_3, Hm.at_4, Hm.at_5, Hm.at_6, Hm.at_7, Hm.at_8, Hm.at_9, Hm.at_10, Hm.at_11, Hm.at_12, Hm.at_13, Hm.at_14, Hm.at_15, Hm.at_16, Hm.at_17, Hm.at_18, Hm.at_19, Hm.at_20, Hm.at_21, Hm.at_22, Hm.at_23, Hm.at_24, Hm.at_25, Hm.ix5_0, Hm.ix5_1, Hm.ix5_2, Hm.ix5_3, Hm.ix5_4, Hm.pow_18, Hm.pow_39, Hm.pow_40, held, D.isC, isCs, E.pu, D.isNon, Cn.d, List.length_cons, List.length_nil, List.getElem?_cons_zero, List.getElem?_cons_succ, List.getElem?_nil, List.set_cons_zero, List.set_cons_succ, List.map_cons, List.map_nil, Option.map_some, Option.map_none, decide_eq_true_eq, Bool.true_and, Bool.and_true, Bool.false_and, Bool.and_false, Bool.not_true, Bool.not_false, Bool.or_true, Bool.true_or, Bool.or_false, Bool.false_or, or_true, true_or, or_false, false_or, and_true, true_and, Bool.false_eq_true, reduceCtorEq, not_true_eq_false, not_false_eq_true, Nat.reduceAdd, Nat.reduceLT, Nat.zero_add, eq_self, decide_true, decide_false, ↓reduceIte, Option.isSome_some, Option.isSome_none, ne_eq, Int.reduceNeg, Int.reducePow, Int.reduceLT, Int.reduceLE, Int.reduceEq, Int.reduceSub, Int.reduceAdd, Int.reduceMul, Nat.reducePow, Nat.reduceLeDiff]
      exact ⟨_, _, rfl, hs', hn⟩
    · by_cases h2 : t = 2
      · have hl' : (((List.range m.toNat).map fun (i : Nat) => (i : Int)).length : Int) = m := by rw [List.length_map, List.length_range]; omega
        obtain ⟨s3, ks, f, d1, d2, d3⟩ := disorder (n + 1) s2 s2h true ((List.range m.toNat).map fun (i : Nat) => (i : Int)) (by omega)
        have hk : (ks.length : Int) = m := by omega
        have d4 : ∀ r : Ev, callR (F (n + 4)) 7 [.io 0, .d (.lst true ((List.range m.toNat).map fun (i : Nat) => D.int i))] (some s2 :: r) = .ok (.lst true (ks.map .int), false) (some s3 :: r) := fun r => by
          rw [List.map_map] at d1
          rw [callR_ok (as := [.io 0, .d (.lst true ((List.range m.toNat).map fun (i : Nat) => D.int i))]) (ds := [s2, .lst true ((List.range m.toNat).map fun (i : Nat) => D.int i)]) rfl (by show ([0] : List Nat).Nodup; decide) d1 rfl]
          rfl
        obtain ⟨zs, s', e, hs', hn⟩ := key _ (some (.lst true (ks.map .int))) (fun s i hs i0 i1 => by
          obtain ⟨z, hz⟩ := atI_in (zs := ks) i0 (by omega)
          refine ⟨z - 5, s, ?_, hs⟩
          show kOwn (.b .sub (.ix (.v 4) (.v 5)) (.c (.int 5))) _ = _
          simp only [hz, Hm.s_set, Hm.s_for, Hm.as_c, Hm.as_g, Hm.as_v, Hm.as_mv, Hm.as_u, Hm.as_b, Hm.as_ix, Hm.as_sl, Hm.as_ch, Hm.as_tb, Hm.as_ife, Hm.as_tup, Hm.as_lst, Hm.as_call, Hm.as_idx, Hm.as_lc, Hm.as_dE, Hm.as_sv, Hm.as_lr, Hm.go_ch, List.contains_nil, List.contains_cons, Nat.reduceBEq, List.any_cons, List.any_nil, beq_self_eq_true, Hm.go_c, Hm.go_g, Hm.go_v, Hm.go_mv, Hm.go_sv, Hm.go_u, Hm.go_b, Hm.go_ix, Hm.go_sl, Hm.go_tb, Hm.go_ife, Hm.go_tup, Hm.go_lst, Hm.go_call, Hm.go_idx, Hm.go_lc, Hm.go_dE, Hm.go_lr, Hm.tst_an, Hm.tst_or, Hm.tst_nt, Hm.tst_one, Hm.tst_e, Hm.val_an, Hm.val_or, Hm.val_nt, Hm.val_one, Hm.val_e, Hm.eo_no, Hm.eo_yes, Hm.to_no, Hm.to_yes, Hm.es_nil, Hm.es_cons, Hm.as_nil, Hm.as_io, Hm.as_ln, Hm.it_seq, Hm.it_scr, Hm.it_rng, Hm.it_enum, Hm.s_expr, Hm.s_ret, Hm.s_iff, Hm.s_app, Hm.s_put, Hm.s_pass, Hm.s_brk, Hm.s_cnt, Hm.ss_nil, Hm.ss_cons, Hm.kU_1, Hm.kU_2, Hm.kU_3, Hm.kB2_1, Hm.kB2_2, Hm.kB2_3, Hm.kB1_1, Hm.kB1_2, Hm.kB1_3, Hm.kI2_1, Hm.kI2_2, Hm.kI2_3, Hm.kI1_1, Hm.kI1_2, Hm.kI1_3, Hm.kS3_1, Hm.kS3_2, Hm.kS3_3, Hm.kS2_1, Hm.kS2_2, Hm.kS2_3, Hm.kS1_1, Hm.kS1_2, Hm.kS1_3, Hm.kC3_1, Hm.kC3_2, Hm.kC3_3, Hm.kC2'_1, Hm.kC2'_2, Hm.kC2_1, Hm.kC2_2, Hm.kC2_3, Hm.kC1_1, Hm.kC1_2, Hm.kC1_3, Hm.kTb_1, Hm.kTb_2, Hm.kTb_3, Hm.kIf_1, Hm.kIf_2, Hm.kIf_3, Hm.kIf_4, Hm.kTup_1, Hm.kTup_2, Hm.kTup_3, Hm.kLst_1, Hm.kLst_2, Hm.kLst_3, Hm.kCall_1, Hm.kCall_2, Hm.kCall_3, Hm.kX2_1, Hm.kX2_2, Hm.kX2_3, Hm.kX1_1, Hm.kX1_2, Hm.kX1_3, Hm.kL2_1, Hm.kL1_1, Hm.kL1_2, Hm.kL1_3, Hm.kLr_1, Hm.kLr_2, Hm.kLr_3, Hm.kOwn_1, Hm.kOwn_2, Hm.kOwn_3, Hm.kAn_1, Hm.kAn_2, Hm.kAn_3, Hm.kAn_4, Hm.kOr_1, Hm.kOr_2, Hm.kOr_3, Hm.kOr_4, Hm.kNt_1, Hm.kNt_2, Hm.kNt_3, Hm.kTr'_1, Hm.kTr'_2, Hm.kTr_1, Hm.kTr_2, Hm.kTr_3, Hm.kAnV_1, Hm.kAnV_2, Hm.kAnV_3, Hm.kAnV_4, Hm.kOrV_1, Hm.kOrV_2, Hm.kOrV_3, Hm.kOrV_4, Hm.kVl_1, Hm.kVl_2, Hm.kVl_3, Hm.kEo_1, Hm.kEo_2, Hm.kEo_3, Hm.kEs2_1, Hm.kEs2_2, Hm.kEs2_3, Hm.kEs1_1, Hm.kEs1_2, Hm.kEs1_3, Hm.kAs2_1, Hm.kAs2_2, Hm.kAs2_3, Hm.kAs1_1, Hm.kAs1_2, Hm.kAs1_3, Hm.kW_1, Hm.kW_2, Hm.kSq_1, Hm.kSq_2, Hm.kSq_3, Hm.kScr_1, Hm.kScr_2, Hm.kScr_3, Hm.kRg_1, Hm.kRg_2, Hm.kRg_3, Hm.kEn_1, Hm.kEn_2, Hm.kEn_3, Hm.kSet_1, Hm.kSet_2, Hm.kSet_3, Hm.kExp_1, Hm.kExp_2, Hm.kExp_3, Hm.kRet_1, Hm.kRet_2, Hm.kRet_3, Hm.kIff_1, Hm.kIff_2, Hm.kIff_3, Hm.kIff_4, Hm.kAp2_1, Hm.kAp1_1, Hm.kAp1_2, Hm.kAp1_3, Hm.kAp_1, Hm.kPl_1, Hm.kPl_2, Hm.kPd_1, Hm.kPd_2, Hm.kPk_1, Hm.kPk_2, Hm.kP3_1, Hm.kP3_2, Hm.kP2_1, Hm.kP2_2, Hm.kP2_3, Hm.kP1_1, Hm.kP1_2, Hm.kP1_3, Hm.kFor_1, Hm.kFor_2, Hm.kFor_3, Hm.kSeq_1, Hm.kSeq_2, Hm.kSeq_3, Hm.kSeq_4, Hm.kSeq_5, Hm.kSeq_6, Hm.kOp_s, Hm.kOp_n, Hm.kV_1, Hm.kMv_1, Hm.kSv_1, Hm.cr_1, Hm.cr_2, Hm.add_i, Hm.sub_i, Hm.mul_r, Hm.mul_l, Hm.mod_i, Hm.fdiv_i, Hm.lt_i, Hm.le_i, Hm.gt_i, Hm.ge_i, Hm.eq_i, Hm.eq_b, Hm.eq_s, Hm.ne_i, Hm.ne_b, Hm.min_i, Hm.max_i, Hm.isN_, Hm.notN_, Hm.neg_i, Hm.abs_i, Hm.int_i, Hm.int_b, Hm.len_l, Hm.len_t, Hm.ix_l, Hm.ix_t, Hm.tru_b, Hm.tru_i, Hm.own_i, Hm.ownV_v, Hm.lst_, Hm.tup_, Hm.sz_, Hm.join_s, Hm.join_n, Hm.at_0, Hm.at_1, Hm.at_2, Hm.at_3, Hm.at_4, Hm.at_5, Hm.at_6, Hm.at_7, Hm.at_8, Hm.at_9, Hm.at_10, Hm.at_11, Hm.at_12, Hm.at_13, Hm.at_14, Hm.at_15, Hm.at_16, Hm.at_17, Hm.at_18, Hm.at_19, Hm.at_20, Hm.at_21, Hm.at_22, Hm.at_23, Hm.at_24, Hm.at_25, Hm.ix5_0, Hm.ix5_1, Hm.ix5_2, Hm.ix5_3, Hm.ix5_4, Hm.pow_18, Hm.pow_39, Hm.pow_40, held, D.isC, isCs, E.pu, D.isNon, Cn.d, List.length_cons, List.length_nil, List.getElem?_cons_zero, List.getElem?_cons_succ, List.getElem?_nil, List.set_cons_zero, List.set_cons_succ, List.map_cons, List.map_nil, Option.map_some, Option.map_none, decide_eq_true_eq, Bool.true_and, Bool.and_true, Bool.false_and, Bool.and_false, Bool.not_true, Bool.not_false, Bool.or_true, Bool.true_or, Bool.or_false, Bool.false_or, or_true, true_or, or_false, false_or, and_true, true_and, Bool.false_eq_true, reduceCtorEq, not_true_eq_false, not_false_eq_true, Nat.reduceAdd, Nat.reduceLT, Nat.zero_add, eq_self, decide_true, decide_false, ↓reduceIte, Option.isSome_some, Option.isSome_none, ne_eq, Int.reduceNeg, Int.reducePow, Int.reduceLT, Int.reduceLE, Int.reduceEq, Int.reduceSub, Int.reduceAdd, Int.reduceMul, Nat.reducePow, Nat.reduceLeDiff]) s3 d2
        rw [h2] at e c2
        have d5 := d4 [some (.int m), some (.int 2), some (.int b), none, none]
        simp only [b__law_heights, c1, c2, h2, r1, r2, r3, r4, w1, d5, e, Hm.s_set, Hm.s_for, Hm.as_c, Hm.as_g, Hm.as_v, Hm.as_mv, Hm.as_u, Hm.as_b, Hm.as_ix, Hm.as_sl, Hm.as_ch, Hm.as_tb, Hm.as_ife, Hm.as_tup, Hm.as_lst, Hm.as_call, Hm.as_idx, Hm.as_lc, Hm.as_dE, Hm.as_sv, Hm.as_lr, Hm.go_ch, List.contains_nil, List.contains_cons, Nat.reduceBEq, List.any_cons, List.any_nil, beq_self_eq_true, Hm.go_c, Hm.go_g, Hm.go_v, Hm.go_mv, Hm.go_sv, Hm.go_u, Hm.go_b, Hm.go_ix, Hm.go_sl, Hm.go_tb, Hm.go_ife, Hm.go_tup, Hm.go_lst, Hm.go_call, Hm.go_idx, Hm.go_lc, Hm.go_dE, Hm.go_lr, Hm.tst_an, Hm.tst_or, Hm.tst_nt, Hm.tst_one, Hm.tst_e, Hm.val_an, Hm.val_or, Hm.val_nt, Hm.val_one, Hm.val_e, Hm.eo_no, Hm.eo_yes, Hm.to_no, Hm.to_yes, Hm.es_nil, Hm.es_cons, Hm.as_nil, Hm.as_io, Hm.as_ln, Hm.it_seq, Hm.it_scr, Hm.it_rng, Hm.it_enum, Hm.s_expr, Hm.s_ret, Hm.s_iff, Hm.s_app, Hm.s_put, Hm.s_pass, Hm.s_brk, Hm.s_cnt, Hm.ss_nil, Hm.ss_cons, Hm.kU_1, Hm.kU_2, Hm.kU_3, Hm.kB2_1, Hm.kB2_2, Hm.kB2_3, Hm.kB1_1, Hm.kB1_2, Hm.kB1_3, Hm.kI2_1, Hm.kI2_2, Hm.kI2_3, Hm.kI1_1, Hm.kI1_2, Hm.kI1_3, Hm.kS3_1, Hm.kS3_2, Hm.kS3_3, Hm.kS2_1, Hm.kS2_2, Hm.kS2_3, Hm.kS1_1, Hm.kS1_2, Hm.kS1_3, Hm.kC3_1, Hm.kC3_2, Hm.kC3_3, Hm.kC2'_1, Hm.kC2'_2, Hm.kC2_1, Hm.kC2_2, Hm.kC2_3, Hm.kC1_1, Hm.kC1_2, Hm.kC1_3, Hm.kTb_1, Hm.kTb_2, Hm.kTb_3, Hm.kIf_1, Hm.kIf_2, Hm.kIf_3, Hm.kIf_4, Hm.kTup_1, Hm.kTup_2, Hm.kTup_3, Hm.kLst_1, Hm.kLst_2, Hm.kLst_3, Hm.kCall_1, Hm.kCall_2, Hm.kCall_3, Hm.kX2_1, Hm.kX2_2, Hm.kX2_3, Hm.kX1_1, Hm.kX1_2, Hm.kX1_3, Hm.kL2_1, Hm.kL1_1, Hm.kL1_2, Hm.kL1_3, Hm.kLr_1, Hm.kLr_2, Hm.kLr_3, Hm.kOwn_1, Hm.kOwn_2, Hm.kOwn_3, Hm.kAn_1, Hm.kAn_2, Hm.kAn_3, Hm.kAn_4, Hm.kOr_1, Hm.kOr_2, Hm.kOr_3, Hm.kOr_4, Hm.kNt_1, Hm.kNt_2, Hm.kNt_3, Hm.kTr'_1, Hm.kTr'_2, Hm.kTr_1, Hm.kTr_2, Hm.kTr_3, Hm.kAnV_1, Hm.kAnV_2, Hm.kAnV_3, Hm.kAnV_4, Hm.kOrV_1, Hm.kOrV_2, Hm.kOrV_3, Hm.kOrV_4, Hm.kVl_1, Hm.kVl_2, Hm.kVl_3, Hm.kEo_1, Hm.kEo_2, Hm.kEo_3, Hm.kEs2_1, Hm.kEs2_2, Hm.kEs2_3, Hm.kEs1_1, Hm.kEs1_2, Hm.kEs1_3, Hm.kAs2_1, Hm.kAs2_2, Hm.kAs2_3, Hm.kAs1_1, Hm.kAs1_2, Hm.kAs1_3, Hm.kW_1, Hm.kW_2, Hm.kSq_1, Hm.kSq_2, Hm.kSq_3, Hm.kScr_1, Hm.kScr_2, Hm.kScr_3, Hm.kRg_1, Hm.kRg_2, Hm.kRg_3, Hm.kEn_1, Hm.kEn_2, Hm.kEn_3, Hm.kSet_1, Hm.kSet_2, Hm.kSet_3, Hm.kExp_1, Hm.kExp_2, Hm.kExp_3, Hm.kRet_1, Hm.kRet_2, Hm.kRet_3, Hm.kIff_1, Hm.kIff_2, Hm.kIff_3, Hm.kIff_4, Hm.kAp2_1, Hm.kAp1_1, Hm.kAp1_2, Hm.kAp1_3, Hm.kAp_1, Hm.kPl_1, Hm.kPl_2, Hm.kPd_1, Hm.kPd_2, Hm.kPk_1, Hm.kPk_2, Hm.kP3_1, Hm.kP3_2, Hm.kP2_1, Hm.kP2_2, Hm.kP2_3, Hm.kP1_1, Hm.kP1_2, Hm.kP1_3, Hm.kFor_1, Hm.kFor_2, Hm.kFor_3, Hm.kSeq_1, Hm.kSeq_2, Hm.kSeq_3, Hm.kSeq_4, Hm.kSeq_5, Hm.kSeq_6, Hm.kOp_s, Hm.kOp_n, Hm.kV_1, Hm.kMv_1, Hm.kSv_1, Hm.cr_1, Hm.cr_2, Hm.add_i, Hm.sub_i, Hm.mul_r, Hm.mul_l, Hm.mod_i, Hm.fdiv_i, Hm.lt_i, Hm.le_i, Hm.gt_i, Hm.ge_i, Hm.eq_i, Hm.eq_b, Hm.eq_s, Hm.ne_i, Hm.ne_b, Hm.min_i, Hm.max_i, Hm.isN_, Hm.notN_, Hm.neg_i, Hm.abs_i, Hm.int_i, Hm.int_b, Hm.len_l, Hm.len_t, Hm.ix_l, Hm.ix_t, Hm.tru_b, Hm.tru_i, Hm.own_i, Hm.ownV_v, Hm.lst_, Hm.tup_, Hm.sz_, Hm.join_s, Hm.join_n, Hm.at_0, Hm.at_1, Hm.at_2, Hm.at_3, Hm.at_4, Hm.at_5, Hm.at_6, Hm.at_7, Hm.at_8, Hm.at_9, Hm.at_10, Hm.at_11, Hm.at_12, Hm.at_13, Hm.at_14, Hm.at_15, Hm.at_16, Hm.at_17, Hm.at_18, Hm.at_19, Hm.at_20, Hm.at_21, Hm.at_22, Hm.at_23, Hm.at_24, Hm.at_25, Hm.ix5_0, Hm.ix5_1, Hm.ix5_2, Hm.ix5_3, Hm.ix5_4, Hm.pow_18, Hm.pow_39, Hm.pow_40, held, D.isC, isCs, E.pu, D.isNon, Cn.d, List.length_cons, List.length_nil, List.getElem?_cons_zero, List.getElem?_cons_succ, List.getElem?_nil, List.set_cons_zero, List.set_cons_succ, List.map_cons, List.map_nil, Option.map_some, Option.map_none, decide_eq_true_eq, Bool.true_and, Bool.and_true, Bool.false_and, Bool.and_false, Bool.not_true, Bool.not_false, Bool.or_true, Bool.true_or, Bool.or_false, Bool.false_or, or_true, true_or, or_false, false_or, and_true, true_and, Bool.false_eq_true, reduceCtorEq, not_true_eq_false, not_false_eq_true, Nat.reduceAdd, Nat.reduceLT, Nat.zero_add, eq_self, decide_true, decide_false, ↓reduceIte, Option.isSome_some, Option.isSome_none, ne_eq, Int.reduceNeg, Int.reducePow, Int.reduceLT, Int.reduceLE, Int.reduceEq, Int.reduceSub, Int.reduceAdd, Int.reduceMul, Nat.reducePow, Nat.reduceLeDiff]
        exact ⟨_, _, rfl, hs', hn⟩
      · by_cases h3 : t = 3
        · obtain ⟨zs, s', e, hs', hn⟩ := key _ none (fun s i hs i0 i1 => by
            obtain ⟨z, s', e, hs'⟩ := any_height n s hs
            have c3 : ∀ r : Ev, callR (F (n + 4)) 9 [.io 0] (some s :: r) = .ok (.int z, false) (some s' :: r) := fun r => by
              rw [callR_ok (as := [.io 0]) (ds := [s]) rfl (by show ([0] : List Nat).Nodup; decide) e rfl]
              rfl
            refine ⟨z, s', ?_, hs'⟩
            show kOwn (.call 9 (.cons (.io 0) .nil)) _ = _
            simp only [c3, Hm.s_set, Hm.s_for, Hm.as_c, Hm.as_g, Hm.as_v, Hm.as_mv, Hm.as_u, Hm.as_b, Hm.as_ix, Hm.as_sl, Hm.as_ch, Hm.as_tb, Hm.as_ife, Hm.as_tup, Hm.as_lst, Hm.as_call, Hm.as_idx, Hm.as_lc, Hm.as_dE, Hm.as_sv, Hm.as_lr, Hm.go_ch, List.contains_nil, List.contains_cons, Nat.reduceBEq, List.any_cons, List.any_nil, beq_self_eq_true, Hm.go_c, Hm.go_g, Hm.go_v, Hm.go_mv, Hm.go_sv, Hm.go_u, Hm.go_b, Hm.go_ix, Hm.go_sl, Hm.go_tb, Hm.go_ife, Hm.go_tup, Hm.go_lst, Hm.go_call, Hm.go_idx, Hm.go_lc, Hm.go_dE, Hm.go_lr, Hm.tst_an, Hm.tst_or, Hm.tst_nt, Hm.tst_one, Hm.tst_e, Hm.val_an, Hm.val_or, Hm.val_nt, Hm.val_one, Hm.val_e, Hm.eo_no, Hm.eo_yes, Hm.to_no, Hm.to_yes, Hm.es_nil, Hm.es_cons, Hm.as_nil, Hm.as_io, Hm.as_ln, Hm.it_seq, Hm.it_scr, Hm.it_rng, Hm.it_enum, Hm.s_expr, Hm.s_ret, Hm.s_iff, Hm.s_app, Hm.s_put, Hm.s_pass, Hm.s_brk, Hm.s_cnt, Hm.ss_nil, Hm.ss_cons, Hm.kU_1, Hm.kU_2, Hm.kU_3, Hm.kB2_1, Hm.kB2_2, Hm.kB2_3, Hm.kB1_1, Hm.kB1_2, Hm.kB1_3, Hm.kI2_1, Hm.kI2_2, Hm.kI2_3, Hm.kI1_1, Hm.kI1_2, Hm.kI1_3, Hm.kS3_1, Hm.kS3_2, Hm.kS3_3, Hm.kS2_1, Hm.kS2_2, Hm.kS2_3, Hm.kS1_1, Hm.kS1_2, Hm.kS1_3, Hm.kC3_1, Hm.kC3_2, Hm.kC3_3, Hm.kC2'_1, Hm.kC2'_2, Hm.kC2_1, Hm.kC2_2, Hm.kC2_3, Hm.kC1_1, Hm.kC1_2, Hm.kC1_3, Hm.kTb_1, Hm.kTb_2, Hm.kTb_3, Hm.kIf_1, Hm.kIf_2, Hm.kIf_3, Hm.kIf_4, Hm.kTup_1, Hm.kTup_2, Hm.kTup_3, Hm.kLst_1, Hm.kLst_2, Hm.kLst_3, Hm.kCall_1, Hm.kCall_2, Hm.kCall_3, Hm.kX2_1, Hm.kX2_2, Hm.kX2_3, Hm.kX1_1, Hm.kX1_2, Hm.kX1_3, Hm.kL2_1, Hm.kL1_1, Hm.kL1_2, Hm.kL1_3, Hm.kLr_1, Hm.kLr_2, Hm.kLr_3, Hm.kOwn_1, Hm.kOwn_2, Hm.kOwn_3, Hm.kAn_1, Hm.kAn_2, Hm.kAn_3, Hm.kAn_4, Hm.kOr_1, Hm.kOr_2, Hm.kOr_3, Hm.kOr_4, Hm.kNt_1, Hm.kNt_2, Hm.kNt_3, Hm.kTr'_1, Hm.kTr'_2, Hm.kTr_1, Hm.kTr_2, Hm.kTr_3, Hm.kAnV_1, Hm.kAnV_2, Hm.kAnV_3, Hm.kAnV_4, Hm.kOrV_1, Hm.kOrV_2, Hm.kOrV_3, Hm.kOrV_4, Hm.kVl_1, Hm.kVl_2, Hm.kVl_3, Hm.kEo_1, Hm.kEo_2, Hm.kEo_3, Hm.kEs2_1, Hm.kEs2_2, Hm.kEs2_3, Hm.kEs1_1, Hm.kEs1_2, Hm.kEs1_3, Hm.kAs2_1, Hm.kAs2_2, Hm.kAs2_3, Hm.kAs1_1, Hm.kAs1_2, Hm.kAs1_3, Hm.kW_1, Hm.kW_2, Hm.kSq_1, Hm.kSq_2, Hm.kSq_3, Hm.kScr_1, Hm.kScr_2, Hm.kScr_3, Hm.kRg_1, Hm.kRg_2, Hm.kRg_3, Hm.kEn_1, Hm.kEn_2, Hm.kEn_3, Hm.kSet_1, Hm.kSet_2, Hm.kSet_3, Hm.kExp_1, Hm.kExp_2, Hm.kExp_3, Hm.kRet_1, Hm.kRet_2, Hm.kRet_3, Hm.kIff_1, Hm.kIff_2, Hm.kIff_3, Hm.kIff_4, Hm.kAp2_1, Hm.kAp1_1, Hm.kAp1_2, Hm.kAp1_3, Hm.kAp_1, Hm.kPl_1, Hm.kPl_2, Hm.kPd_1, Hm.kPd_2, Hm.kPk_1, Hm.kPk_2, Hm.kP3_1, Hm.kP3_2, Hm.kP2_1, Hm.kP2_2, Hm.kP2_3, Hm.kP1_1, Hm.kP1_2, Hm.kP1_3, Hm.kFor_1, Hm.kFor_2, Hm.kFor_3, Hm.kSeq_1, Hm.kSeq_2, Hm.kSeq_3, Hm.kSeq_4, Hm.kSeq_5, Hm.kSeq_6, Hm.kOp_s, Hm.kOp_n, Hm.kV_1, Hm.kMv_1, Hm.kSv_1, Hm.cr_1, Hm.cr_2, Hm.add_i, Hm.sub_i, Hm.mul_r, Hm.mul_l, Hm.mod_i, Hm.fdiv_i, Hm.lt_i, Hm.le_i, Hm.gt_i, Hm.ge_i, Hm.eq_i, Hm.eq_b, Hm.eq_s, Hm.ne_i, Hm.ne_b, Hm.min_i, Hm.max_i, Hm.isN_, Hm.notN_, Hm.neg_i, Hm.abs_i, Hm.int_i, Hm.int_b, Hm.len_l, Hm.len_t, Hm.ix_l, Hm.ix_t, Hm.tru_b, Hm.tru_i, Hm.own_i, Hm.ownV_v, Hm.lst_, Hm.tup_, Hm.sz_, Hm.join_s, Hm.join_n, Hm.at_0, Hm.at_1, Hm.at_2, Hm.at_3, Hm.at_4, Hm.at_5, Hm.at_6, Hm.at_7, Hm.at_8, Hm.at_9, Hm.at_10, Hm.at_11, Hm.at_12, Hm.at_13, Hm.at_14, Hm.at_15, Hm.at_16, Hm.at_17, Hm.at_18, Hm.at_19, Hm.at_20, Hm.at_21, Hm.at_22, Hm.at_23, Hm.at_24, Hm.at_25, Hm.ix5_0, Hm.ix5_1, Hm.ix5_2, Hm.ix5_3, Hm.ix5_4, Hm.pow_18, Hm.pow_39, Hm.pow_40, held, D.isC, isCs, E.pu, D.isNon, Cn.d, List.length_cons, List.length_nil, List.getElem?_cons_zero, List.getElem?_cons_succ, List.getElem?_nil, List.set_cons_zero, List.set_cons_succ, List.map_cons, List.map_nil, Option.map_some, Option.map_none, decide_eq_true_eq, Bool.true_and, Bool.and_true, Bool.false_and, Bool.and_false, Bool.not_true, Bool.not_false, Bool.or_true, Bool.true_or, Bool.or_false, Bool.false_or, or_true, true_or, or_false, false_or, and_true, true_and, Bool.false_eq_true, reduceCtorEq, not_true_eq_false, not_false_eq_true, Nat.reduceAdd, Nat.reduceLT, Nat.zero_add, eq_self, decide_true, decide_false, ↓reduceIte, Option.isSome_some, Option.isSome_none, ne_eq, Int.reduceNeg, Int.reducePow, Int.reduceLT, Int.reduceLE, Int.reduceEq, Int.reduceSub, Int.reduceAdd, Int.reduceMul, Nat.reducePow, Nat.reduceLeDiff]) s2 s2h
          rw [h3] at e c2
          simp only [b__law_heights, c1, c2, h3, r1, r2, w1, e, Hm.s_set, Hm.s_for, Hm.as_c, Hm.as_g, Hm.as_v, Hm.as_mv, Hm.as_u, Hm.as_b, Hm.as_ix, Hm.as_sl, Hm.as_ch, Hm.as_tb, Hm.as_ife, Hm.as_tup, Hm.as_lst, Hm.as_call, Hm.as_idx, Hm.as_lc, Hm.as_dE, Hm.as_sv, Hm.as_lr, Hm.go_ch, List.contains_nil, List.contains_cons, Nat.reduceBEq, List.any_cons, List.any_nil, beq_self_eq_true, Hm.go_c, Hm.go_g, Hm.go_v, Hm.go_mv, Hm.go_sv, Hm.go_u, Hm.go_b, Hm.go_ix, Hm.go_sl, Hm.go_tb, Hm.go_ife, Hm.go_tup, Hm.go_lst, Hm.go_call, Hm.go_idx, Hm.go_lc, Hm.go_dE, Hm.go_lr, Hm.tst_an, Hm.tst_or, Hm.tst_nt, Hm.tst_one, Hm.tst_e, Hm.val_an, Hm.val_or, Hm.val_nt, Hm.val_one, Hm.val_e, Hm.eo_no, Hm.eo_yes, Hm.to_no, Hm.to_yes, Hm.es_nil, Hm.es_cons, Hm.as_nil, Hm.as_io, Hm.as_ln, Hm.it_seq, Hm.it_scr, Hm.it_rng, Hm.it_enum, Hm.s_expr, Hm.s_ret, Hm.s_iff, Hm.s_app, Hm.s_put, Hm.s_pass, Hm.s_brk, Hm.s_cnt, Hm.ss_nil, Hm.ss_cons, Hm.kU_1, Hm.kU_2, Hm.kU_3, Hm.kB2_1, Hm.kB2_2, Hm.kB2_3, Hm.kB1_1, Hm.kB1_2, Hm.kB1_3, Hm.kI2_1, Hm.kI2_2, Hm.kI2_3, Hm.kI1_1, Hm.kI1_2, Hm.kI1_3, Hm.kS3_1, Hm.kS3_2, Hm.kS3_3, Hm.kS2_1, Hm.kS2_2, Hm.kS2_3, Hm.kS1_1, Hm.kS1_2, Hm.kS1_3, Hm.kC3_1, Hm.kC3_2, Hm.kC3_3, Hm.kC2'_1, Hm.kC2'_2, Hm.kC2_1, Hm.kC2_2, Hm.kC2_3, Hm.kC1_1, Hm.kC1_2, Hm.kC1_3, Hm.kTb_1, Hm.kTb_2, Hm.kTb_3, Hm.kIf_1, Hm.kIf_2, Hm.kIf_3, Hm.kIf_4, Hm.kTup_1, Hm.kTup_2, Hm.kTup_3, Hm.kLst_1, Hm.kLst_2, Hm.kLst_3, Hm.kCall_1, Hm.kCall_2, Hm.kCall_3, Hm.kX2_1, Hm.kX2_2, Hm.kX2_3, Hm.kX1_1, Hm.kX1_2, Hm.kX1_3, Hm.kL2_1, Hm.kL1_1, Hm.kL1_2, Hm.kL1_3, Hm.kLr_1, Hm.kLr_2, Hm.kLr_3, Hm.kOwn_1, Hm.kOwn_2, Hm.kOwn_3, Hm.kAn_1, Hm.kAn_2, Hm.kAn_3, Hm.kAn_4, Hm.kOr_1, Hm.kOr_2, Hm.kOr_3, Hm.kOr_4, Hm.kNt_1, Hm.kNt_2, Hm.kNt_3, Hm.kTr'_1, Hm.kTr'_2, Hm.kTr_1, Hm.kTr_2, Hm.kTr_3, Hm.kAnV_1, Hm.kAnV_2, Hm.kAnV_3, Hm.kAnV_4, Hm.kOrV_1, Hm.kOrV_2, Hm.kOrV_3, Hm.kOrV_4, Hm.kVl_1, Hm.kVl_2, Hm.kVl_3, Hm.kEo_1, Hm.kEo_2, Hm.kEo_3, Hm.kEs2_1, Hm.kEs2_2, Hm.kEs2_3, Hm.kEs1_1, Hm.kEs1_2, Hm.kEs1_3, Hm.kAs2_1, Hm.kAs2_2, Hm.kAs2_3, Hm.kAs1_1, Hm.kAs1_2, Hm.kAs1_3, Hm.kW_1, Hm.kW_2, Hm.kSq_1, Hm.kSq_2, Hm.kSq_3, Hm.kScr_1, Hm.kScr_2, Hm.kScr_3, Hm.kRg_1, Hm.kRg_2, Hm.kRg_3, Hm.kEn_1, Hm.kEn_2, Hm.kEn_3, Hm.kSet_1, Hm.kSet_2, Hm.kSet_3, Hm.kExp_1, Hm.kExp_2, Hm.kExp_3, Hm.kRet_1, Hm.kRet_2, Hm.kRet_3, Hm.kIff_1, Hm.kIff_2, Hm.kIff_3, Hm.kIff_4, Hm.kAp2_1, Hm.kAp1_1, Hm.kAp1_2, Hm.kAp1_3, Hm.kAp_1, Hm.kPl_1, Hm.kPl_2, Hm.kPd_1, Hm.kPd_2, Hm.kPk_1, Hm.kPk_2, Hm.kP3_1, Hm.kP3_2, Hm.kP2_1, Hm.kP2_2, Hm.kP2_3, Hm.kP1_1, Hm.kP1_2, Hm.kP1_3, Hm.kFor_1, Hm.kFor_2, Hm.kFor_3, Hm.kSeq_1, Hm.kSeq_2, Hm.kSeq_3, Hm.kSeq_4, Hm.kSeq_5, Hm.kSeq_6, Hm.kOp_s, Hm.kOp_n, Hm.kV_1, Hm.kMv_1, Hm.kSv_1, Hm.cr_1, Hm.cr_2, Hm.add_i, Hm.sub_i, Hm.mul_r, Hm.mul_l, Hm.mod_i, Hm.fdiv_i, Hm.lt_i, Hm.le_i, Hm.gt_i, Hm.ge_i, Hm.eq_i, Hm.eq_b, Hm.eq_s, Hm.ne_i, Hm.ne_b, Hm.min_i, Hm.max_i, Hm.isN_, Hm.notN_, Hm.neg_i, Hm.abs_i, Hm.int_i, Hm.int_b, Hm.len_l, Hm.len_t, Hm.ix_l, Hm.ix_t, Hm.tru_b, Hm.tru_i, Hm.own_i, Hm.ownV_v, Hm.lst_, Hm.tup_, Hm.sz_, Hm.join_s, Hm.join_n, Hm.at_0, Hm.at_1, Hm.at_2, Hm.at_3, Hm.at_4, Hm.at_5, Hm.at_6, Hm.at_7, Hm.at_8, Hm.at_9, Hm.at_10, Hm.at_11, Hm.at_12, Hm.at_13, Hm.at_14, Hm.at_15, Hm.at_16, Hm.at_17, Hm.at_18, Hm.at_19, Hm.at_20, Hm.at_21, Hm.at_22, Hm.at_23, Hm.at_24, Hm.at_25, Hm.ix5_0, Hm.ix5_1, Hm.ix5_2, Hm.ix5_3, Hm.ix5_4, Hm.pow_18, Hm.pow_39, Hm.pow_40, held, D.isC, isCs, E.pu, D.isNon, Cn.d, List.length_cons, List.length_nil, List.getElem?_cons_zero, List.getElem?_cons_succ, List.getElem?_nil, List.set_cons_zero, List.set_cons_succ, List.map_cons, List.map_nil, Option.map_some, Option.map_none, decide_eq_true_eq, Bool.true_and, Bool.and_true, Bool.false_and, Bool.and_false, Bool.not_true, Bool.not_false, Bool.or_true, Bool.true_or, Bool.or_false, Bool.false_or, or_true, true_or, or_false, false_or, and_true, true_and, Bool.false_eq_true, reduceCtorEq, not_true_eq_false, not_false_eq_true, Nat.reduceAdd, Nat.reduceLT, Nat.zero_add, eq_self, decide_true, decide_false, ↓reduceIte, Option.isSome_some, Option.isSome_none, ne_eq, Int.reduceNeg, Int.reducePow, Int.reduceLT, Int.reduceLE, Int.reduceEq, Int.reduceSub, Int.reduceAdd, Int.reduceMul, Nat.reducePow, Nat.reduceLeDiff]
          exact ⟨_, _, rfl, hs', hn⟩
        · by_cases h4 : t = 4
          · obtain ⟨zs, s', e, hs', hn⟩ := key _ none (fun s i hs i0 i1 => by
              obtain ⟨z, s', _, hs', c3⟩ := pickI (n + 1) s hs true [-9999, -1, 0, 1, 9999] (by decide) (by decide)
              have c3 := c3 [some (.int m), some (.int t), some (.int b), none, some (.int i)]
              simp only [List.map_cons, List.map_nil] at c3
              refine ⟨z, s', ?_, hs'⟩
              show kOwn (.call 4 (.cons (.io 0) (.cons (.lst (.cons (.u .neg (.c (.int 9999))) (.cons (.u .neg (.c (.int 1))) (.cons (.c (.int 0)) (.cons (.c (.int 1)) (.cons (.c (.int 9999)) .nil)))))) .nil))) _ = _
              simp only [c3, Hm.s_set, Hm.s_for, Hm.as_c, Hm.as_g, Hm.as_v, Hm.as_mv, Hm.as_u, Hm.as_b, Hm.as_ix, Hm.as_sl, Hm.as_ch, Hm.as_tb, Hm.as_ife, Hm.as_tup, Hm.as_lst, Hm.as_call, Hm.as_idx, Hm.as_lc, Hm.as_dE, Hm.as_sv, Hm.as_lr, Hm.go_ch, List.contains_nil, List.contains_cons, Nat.reduceBEq, List.any_cons, List.any_nil, beq_self_eq_true, Hm.go_c, Hm.go_g, Hm.go_v, Hm.go_mv, Hm.go_sv, Hm.go_u, Hm.go_b, Hm.go_ix, Hm.go_sl, Hm.go_tb, Hm.go_ife, Hm.go_tup, Hm.go_lst, Hm.go_call, Hm.go_idx, Hm.go_lc, Hm.go_dE, Hm.go_lr, Hm.tst_an, Hm.tst_or, Hm.tst_nt, Hm.tst_one, Hm.tst_e, Hm.val_an, Hm.val_or, Hm.val_nt, Hm.val_one, Hm.val_e, Hm.eo_no, Hm.eo_yes, Hm.to_no, Hm.to_yes, Hm.es_nil, Hm.es_cons, Hm.as_nil, Hm.as_io, Hm.as_ln, Hm.it_seq, Hm.it_scr, Hm.it_rng, Hm.it_enum, Hm.s_expr, Hm.s_ret, Hm.s_iff, Hm.s_app, Hm.s_put, Hm.s_pass, Hm.s_brk, Hm.s_cnt, Hm.ss_nil, Hm.ss_cons, Hm.kU_1, Hm.kU_2, Hm.kU_3, Hm.kB2_1, Hm.kB2_2, Hm.kB2_3, Hm.kB1_1, Hm.kB1_2, Hm.kB1_3, Hm.kI2_1, Hm.kI2_2, Hm.kI2_3, Hm.kI1_1, Hm.kI1_2, Hm.kI1_3, Hm.kS3_1, Hm.kS3_2, Hm.kS3_3, Hm.kS2_1, Hm.kS2_2, Hm.kS2_3, Hm.kS1_1, Hm.kS1_2, Hm.kS1_3, Hm.kC3_1, Hm.kC3_2, Hm.kC3_3, Hm.kC2'_1, Hm.kC2'_2, Hm.kC2_1, Hm.kC2_2, Hm.kC2_3, Hm.kC1_1, Hm.kC1_2, Hm.kC1_3, Hm.kTb_1, Hm.kTb_2, Hm.kTb_3, Hm.kIf_1, Hm.kIf_2, Hm.kIf_3, Hm.kIf_4, Hm.kTup_1, Hm.kTup_2, Hm.kTup_3, Hm.kLst_1, Hm.kLst_2, Hm.kLst_3, Hm.kCall_1, Hm.kCall_2, Hm.kCall_3, Hm.kX2_1, Hm.kX2_2, Hm.kX2_3, Hm.kX1_1, Hm.kX1_2, Hm.kX1_3, Hm.kL2_1, Hm.kL1_1, Hm.kL1_2, Hm.kL1_3, Hm.kLr_1, Hm.kLr_2, Hm.kLr_3, Hm.kOwn_1, Hm.kOwn_2, Hm.kOwn_3, Hm.kAn_1, Hm.kAn_2, Hm.kAn_3, Hm.kAn_4, Hm.kOr_1, Hm.kOr_2, Hm.kOr_3, Hm.kOr_4, Hm.kNt_1, Hm.kNt_2, Hm.kNt_3, Hm.kTr'_1, Hm.kTr'_2, Hm.kTr_1, Hm.kTr_2, Hm.kTr_3, Hm.kAnV_1, Hm.kAnV_2, Hm.kAnV_3, Hm.kAnV_4, Hm.kOrV_1, Hm.kOrV_2, Hm.kOrV_3, Hm.kOrV_4, Hm.kVl_1, Hm.kVl_2, Hm.kVl_3, Hm.kEo_1, Hm.kEo_2, Hm.kEo_3, Hm.kEs2_1, Hm.kEs2_2, Hm.kEs2_3, Hm.kEs1_1, Hm.kEs1_2, Hm.kEs1_3, Hm.kAs2_1, Hm.kAs2_2, Hm.kAs2_3, Hm.kAs1_1, Hm.kAs1_2, Hm.kAs1_3, Hm.kW_1, Hm.kW_2, Hm.kSq_1, Hm.kSq_2, Hm.kSq_3, Hm.kScr_1, Hm.kScr_2, Hm.kScr_3, Hm.kRg_1, Hm.kRg_2, Hm.kRg_3, Hm.kEn_1, Hm.kEn_2, Hm.kEn_3, Hm.kSet_1, Hm.kSet_2, Hm.kSet_3, Hm.kExp_1, Hm.kExp_2, Hm.kExp_3, Hm.kRet_1, Hm.kRet_2, Hm.kRet_3, Hm.kIff_1, Hm.kIff_2, Hm.kIff_3, Hm.kIff_4, Hm.kAp2_1, Hm.kAp1_1, Hm.kAp1_2, Hm.kAp1_3, Hm.kAp_1, Hm.kPl_1, Hm.kPl_2, Hm.kPd_1, Hm.kPd_2, Hm.kPk_1, Hm.kPk_2, Hm.kP3_1, Hm.kP3_2, Hm.kP2_1, Hm.kP2_2, Hm.kP2_3, Hm.kP1_1, Hm.kP1_2, Hm.kP1_3, Hm.kFor_1, Hm.kFor_2, Hm.kFor_3, Hm.kSeq_1, Hm.kSeq_2, Hm.kSeq_3, Hm.kSeq_4, Hm.kSeq_5, Hm.kSeq_6, Hm.kOp_s, Hm.kOp_n, Hm.kV_1, Hm.kMv_1, Hm.kSv_1, Hm.cr_1, Hm.cr_2, Hm.add_i, Hm.sub_i, Hm.mul_r, Hm.mul_l, Hm.mod_i, Hm.fdiv_i, Hm.lt_i, Hm.le_i, Hm.gt_i, Hm.ge_i, Hm.eq_i, Hm.eq_b, Hm.eq_s, Hm.ne_i, Hm.ne_b, Hm.min_i, Hm.max_i, Hm.isN_, Hm.notN_, Hm.neg_i, Hm.abs_i, Hm.int_i, Hm.int_b, Hm.len_l, Hm.len_t, Hm.ix_l, Hm.ix_t, Hm.tru_b, Hm.tru_i, Hm.own_i, Hm.ownV_v, Hm.lst_, Hm.tup_, Hm.sz_, Hm.join_s, Hm.join_n, Hm.at_0, Hm.at_1, Hm.at_2, Hm.at_3, Hm.at_4, Hm.at_5, Hm.at_6, Hm.at_7, Hm.at_8, Hm.at_9, Hm.at_10, Hm.at_11, Hm.at_12, Hm.at_13, Hm.at_14, Hm.at_15, Hm.at_16, Hm.at_17, Hm.at_18, Hm.at_19, Hm.at_20, Hm.at_21, Hm.at_22, Hm.at_23, Hm.at_24, Hm.at_25, Hm.ix5_0, Hm.ix5_1, Hm.ix5_2, Hm.ix5_3, Hm.ix5_4, Hm.pow_18, Hm.pow_39, Hm.pow_40, held, D.isC, isCs, E.pu, D.isNon, Cn.d, List.length_cons, List.length_nil, List.getElem?_cons_zero, List.getElem?_cons_succ, List.getElem?_nil, List.set_cons_zero, List.set_cons_succ, List.map_cons, List.map_nil, Option.map_some, Option.map_none, decide_eq_true_eq, Bool.true_and, Bool.and_true, Bool.false_and, Bool.and_false, Bool.not_true, Bool.not_false, Bool.or_true, Bool.true_or, Bool.or_false, Bool.false_or, or_true, true_or, or_false, false_or, and_true, true_and, Bool.false_eq_true, reduceCtorEq, not_true_eq_false, not_false_eq_true, Nat.reduceAdd, Nat.reduceLT, Nat.zero_add, eq_self, decide_true, decide_false, ↓reduceIte, Option.isSome_some, Option.isSome_none, ne_eq, Int.reduceNeg, Int.reducePow, Int.reduceLT, Int.reduceLE, Int.reduceEq, Int.reduceSub, Int.reduceAdd, Int.reduceMul, Nat.reducePow, Nat.reduceLeDiff]) s2 s2h
            rw [h4] at e c2
            simp only [b__law_heights, c1, c2, h4, r1, r2, w1, e, Hm.s_set, Hm.s_for, Hm.as_c, Hm.as_g, Hm.as_v, Hm.as_mv, Hm.as_u, Hm.as_b, Hm.as_ix, Hm.as_sl, Hm.as_ch, Hm.as_tb, Hm.as_ife, Hm.as_tup, Hm.as_lst, Hm.as_call, Hm.as_idx, Hm.as_lc, Hm.as_dE, Hm.as_sv, Hm.as_lr, Hm.go_ch, List.contains_nil, List.contains_cons, Nat.reduceBEq, List.any_cons, List.any_nil, beq_self_eq_true, Hm.go_c, Hm.go_g, Hm.go_v, Hm.go_mv, Hm.go_sv, Hm.go_u, Hm.go_b, Hm.go_ix, Hm.go_sl, Hm.go_tb, Hm.go_ife, Hm.go_tup, Hm.go_lst, Hm.go_call, Hm.go_idx, Hm.go_lc, Hm.go_dE, Hm.go_lr, Hm.tst_an, Hm.tst_or, Hm.tst_nt, Hm.tst_one, Hm.tst_e, Hm.val_an, Hm.val_or, Hm.val_nt, Hm.val_one, Hm.val_e, Hm.eo_no, Hm.eo_yes, Hm.to_no, Hm.to_yes, Hm.es_nil, Hm.es_cons, Hm.as_nil, Hm.as_io, Hm.as_ln, Hm.it_seq, Hm.it_scr, Hm.it_rng, Hm.it_enum, Hm.s_expr, Hm.s_ret, Hm.s_iff, Hm.s_app, Hm.s_put, Hm.s_pass, Hm.s_brk, Hm.s_cnt, Hm.ss_nil, Hm.ss_cons, Hm.kU_1, Hm.kU_2, Hm.kU_3, Hm.kB2_1, Hm.kB2_2, Hm.kB2_3, Hm.kB1_1, Hm.kB1_2, Hm.kB1_3, Hm.kI2_1, Hm.kI2_2, Hm.kI2_3, Hm.kI1_1, Hm.kI1_2, Hm.kI1_3, Hm.kS3_1, Hm.kS3_2, Hm.kS3_3, Hm.kS2_1, Hm.kS2_2, Hm.kS2_3, Hm.kS1_1, Hm.kS1_2, Hm.kS1_3, Hm.kC3_1, Hm.kC3_2, Hm.kC3_3, Hm.kC2'_1, Hm.kC2'_2, Hm.kC2_1, Hm.kC2_2, Hm.kC2_3, Hm.kC1_1, Hm.kC1_2, Hm.kC1_3, Hm.kTb_1, Hm.kTb_2, Hm.kTb_3, Hm.kIf_1, Hm.kIf_2, Hm.kIf_3, Hm.kIf_4, Hm.kTup_1, Hm.kTup_2, Hm.kTup_3, Hm.kLst_1, Hm.kLst_2, Hm.kLst_3, Hm.kCall_1, Hm.kCall_2, Hm.kCall_3, Hm.kX2_1, Hm.kX2_2, Hm.kX2_3, Hm.kX1_1, Hm.kX1_2, Hm.kX1_3, Hm.kL2_1, Hm.kL1_1, Hm.kL1_2, Hm.kL1_3, Hm.kLr_1, Hm.kLr_2, Hm.kLr_3, Hm.kOwn_1, Hm.kOwn_2, Hm.kOwn_3, Hm.kAn_1, Hm.kAn_2, Hm.kAn_3, Hm.kAn_4, Hm.kOr_1, Hm.kOr_2, Hm.kOr_3, Hm.kOr_4, Hm.kNt_1, Hm.kNt_2, Hm.kNt_3, Hm.kTr'_1, Hm.kTr'_2, Hm.kTr_1, Hm.kTr_2, Hm.kTr_3, Hm.kAnV_1, Hm.kAnV_2, Hm.kAnV_3, Hm.kAnV_4, Hm.kOrV_1, Hm.kOrV_2, Hm.kOrV_3, Hm.kOrV_4, Hm.kVl_1, Hm.kVl_2, Hm.kVl_3, Hm.kEo_1, Hm.kEo_2, Hm.kEo_3, Hm.kEs2_1, Hm.kEs2_2, Hm.kEs2_3, Hm.kEs1_1, Hm.kEs1_2, Hm.kEs1_3, Hm.kAs2_1, Hm.kAs2_2, Hm.kAs2_3, Hm.kAs1_1, Hm.kAs1_2, Hm.kAs1_3, Hm.kW_1, Hm.kW_2, Hm.kSq_1, Hm.kSq_2, Hm.kSq_3, Hm.kScr_1, Hm.kScr_2, Hm.kScr_3, Hm.kRg_1, Hm.kRg_2, Hm.kRg_3, Hm.kEn_1, Hm.kEn_2, Hm.kEn_3, Hm.kSet_1, Hm.kSet_2, Hm.kSet_3, Hm.kExp_1, Hm.kExp_2, Hm.kExp_3, Hm.kRet_1, Hm.kRet_2, Hm.kRet_3, Hm.kIff_1, Hm.kIff_2, Hm.kIff_3, Hm.kIff_4, Hm.kAp2_1, Hm.kAp1_1, Hm.kAp1_2, Hm.kAp1_3, Hm.kAp_1, Hm.kPl_1, Hm.kPl_2, Hm.kPd_1, Hm.kPd_2, Hm.kPk_1, Hm.kPk_2, Hm.kP3_1, Hm.kP3_2, Hm.kP2_1, Hm.kP2_2, Hm.kP2_3, Hm.kP1_1, Hm.kP1_2, Hm.kP1_3, Hm.kFor_1, Hm.kFor_2, Hm.kFor_3, Hm.kSeq_1, Hm.kSeq_2, Hm.kSeq_3, Hm.kSeq_4, Hm.kSeq_5, Hm.kSeq_6, Hm.kOp_s, Hm.kOp_n, Hm.kV_1, Hm.kMv_1, Hm.kSv_1, Hm.cr_1, Hm.cr_2, Hm.add_i, Hm.sub_i, Hm.mul_r, Hm.mul_l, Hm.mod_i, Hm.fdiv_i, Hm.lt_i, Hm.le_i, Hm.gt_i, Hm.ge_i, Hm.eq_i, Hm.eq_b, Hm.eq_s, Hm.ne_i, Hm.ne_b, Hm.min_i, Hm.max_i, Hm.isN_, Hm.notN_, Hm.neg_i, Hm.abs_i, Hm.int_i, Hm.int_b, Hm.len_l, Hm.len_t, Hm.ix_l, Hm.ix_t, Hm.tru_b, Hm.tru_i, Hm.own_i, Hm.ownV_v, Hm.lst_, Hm.tup_, Hm.sz_, Hm.join_s, Hm.join_n, Hm.at_0, Hm.at_1, Hm.at_2, Hm.at_3, Hm.at_4, Hm.at_5, Hm.at_6, Hm.at_7, Hm.at_8, Hm.at_9, Hm.at_10, Hm.at_11, Hm.at_12, Hm.at_13, Hm.at_14, Hm.at_15, Hm.at_16, Hm.at_17, Hm.at_18, Hm.at_19, Hm.at_20, Hm.at_21, Hm.at_22, Hm.at_23, Hm.at_24, Hm.at_25, Hm.ix5_0, Hm.ix5_1, Hm.ix5_2, Hm.ix5_3, Hm.ix5_4, Hm.pow_18, Hm.pow_39, Hm.pow_40, held, D.isC, isCs, E.pu, D.isNon, Cn.d, List.length_cons, List.length_nil, List.getElem?_cons_zero, List.getElem?_cons_succ, List.getElem?_nil, List.set_cons_zero, List.set_cons_succ, List.map_cons, List.map_nil, Option.map_some, Option.map_none, decide_eq_true_eq, Bool.true_and, Bool.and_true, Bool.false_and, Bool.and_false, Bool.not_true, Bool.not_false, Bool.or_true, Bool.true_or, Bool.or_false, Bool.false_or, or_true, true_or, or_false, false_or, and_true, true_and, Bool.false_eq_true, reduceCtorEq, not_true_eq_false, not_false_eq_true, Nat.reduceAdd, Nat.reduceLT, Nat.zero_add, eq_self, decide_true, decide_false, ↓reduceIte, Option.isSome_some, Option.isSome_none, ne_eq, Int.reduceNeg, Int.reducePow, Int.reduceLT, Int.reduceLE, Int.reduceEq, Int.reduceSub, Int.reduceAdd, Int.reduceMul, Nat.reducePow, Nat.reduceLeDiff]
            exact ⟨_, _, rfl, hs', hn⟩
          · obtain ⟨zs, s', e, hs', hn⟩ := key _ none (fun s i hs i0 i1 => by
              have hq : (3 + 2 * (if t < 7 then 1 else 0) : Int) < 1073741824 := by split <;> decide
              have c3 := call_take (n := n + 2) hs hq [some (.int m), some (.int t), some (.int b), none, some (.int i)]
              refine ⟨b + tk (n + 2) s (3 + 2 * (if t < 7 then 1 else 0)), _, ?_, st_ts (n := n + 2) hs hq⟩
              show kOwn (.b .add (.v 3) (.call 3 (.cons (.io 0) (.cons (.b .add (.c (.int 3)) (.b .mul (.c (.int 2)) (.u .int (.b .lt (.v 2) (.c (.int 7)))))) .nil)))) _ = _
              simp only [c3, Hm.s_set, Hm.s_for, Hm.as_c, Hm.as_g, Hm.as_v, Hm.as_mv, Hm.as_u, Hm.as_b, Hm.as_ix, Hm.as_sl, Hm.as_ch, Hm.as_tb, Hm.as_ife, Hm.as_tup, Hm.as_lst, Hm.as_call, Hm.as_idx, Hm.as_lc, Hm.as_dE, Hm.as_sv, Hm.as_lr, Hm.go_ch, List.contains_nil, List.contains_cons, Nat.reduceBEq, List.any_cons, List.any_nil, beq_self_eq_true, Hm.go_c, Hm.go_g, Hm.go_v, Hm.go_mv, Hm.go_sv, Hm.go_u, Hm.go_b, Hm.go_ix, Hm.go_sl, Hm.go_tb, Hm.go_ife, Hm.go_tup, Hm.go_lst, Hm.go_call, Hm.go_idx, Hm.go_lc, Hm.go_dE, Hm.go_lr, Hm.tst_an, Hm.tst_or, Hm.tst_nt, Hm.tst_one, Hm.tst_e, Hm.val_an, Hm.val_or, Hm.val_nt, Hm.val_one, Hm.val_e, Hm.eo_no, Hm.eo_yes, Hm.to_no, Hm.to_yes, Hm.es_nil, Hm.es_cons, Hm.as_nil, Hm.as_io, Hm.as_ln, Hm.it_seq, Hm.it_scr, Hm.it_rng, Hm.it_enum, Hm.s_expr, Hm.s_ret, Hm.s_iff, Hm.s_app, Hm.s_put, Hm.s_pass, Hm.s_brk, Hm.s_cnt, Hm.ss_nil, Hm.ss_cons, Hm.kU_1, Hm.kU_2, Hm.kU_3, Hm.kB2_1, Hm.kB2_2, Hm.kB2_3, Hm.kB1_1, Hm.kB1_2, Hm.kB1_3, Hm.kI2_1, Hm.kI2_2, Hm.kI2_3, Hm.kI1_1, Hm.kI1_2, Hm.kI1_3, Hm.kS3_1, Hm.kS3_2, Hm.kS3_3, Hm.kS2_1, Hm.kS2_2, Hm.kS2_3, Hm.kS1_1, Hm.kS1_2, Hm.kS1_3, Hm.kC3_1, Hm.kC3_2, Hm.kC3_3, Hm.kC2'_1, Hm.kC2'_2, Hm.kC2_1, Hm.kC2_2, Hm.kC2_3, Hm.kC1_1, Hm.kC1_2, Hm.kC1_3, Hm.kTb_1, Hm.kTb_2, Hm.kTb_3, Hm.kIf_1, Hm.kIf_2, Hm.kIf_3, Hm.kIf_4, Hm.kTup_1, Hm.kTup_2, Hm.kTup_3, Hm.kLst_1, Hm.kLst_2, Hm.kLst_3, Hm.kCall_1, Hm.kCall_2, Hm.kCall_3, Hm.kX2_1, Hm.kX2_2, Hm.kX2_3, Hm.kX1_1, Hm.kX1_2, Hm.kX1_3, Hm.kL2_1, Hm.kL1_1, Hm.kL1_2, Hm.kL1_3, Hm.kLr_1, Hm.kLr_2, Hm.kLr_3, Hm.kOwn_1, Hm.kOwn_2, Hm.kOwn_3, Hm.kAn_1, Hm.kAn_2, Hm.kAn_3, Hm.kAn_4, Hm.kOr_1, Hm.kOr_2, Hm.kOr_3, Hm.kOr_4, Hm.kNt_1, Hm.kNt_2, Hm.kNt_3, Hm.kTr'_1, Hm.kTr'_2, Hm.kTr_1, Hm.kTr_2, Hm.kTr_3, Hm.kAnV_1, Hm.kAnV_2, Hm.kAnV_3, Hm.kAnV_4, Hm.kOrV_1, Hm.kOrV_2, Hm.kOrV_3, Hm.kOrV_4, Hm.kVl_1, Hm.kVl_2, Hm.kVl_3, Hm.kEo_1, Hm.kEo_2, Hm.kEo_3, Hm.kEs2_1, Hm.kEs2_2, Hm.kEs2_3, Hm.kEs1_1, Hm.kEs1_2, Hm.kEs1_3, Hm.kAs2_1, Hm.kAs2_2, Hm.kAs2_3, Hm.kAs1_1, Hm.kAs1_2, Hm.kAs1_3, Hm.kW_1, Hm.kW_2, Hm.kSq_1, Hm.kSq_2, Hm.kSq_3, Hm.kScr_1, Hm.kScr_2, Hm.kScr_3, Hm.kRg_1, Hm.kRg_2, Hm.kRg_3, Hm.kEn_1, Hm.kEn_2, Hm.kEn_3, Hm.kSet_1, Hm.kSet_2, Hm.kSet_3, Hm.kExp_1, Hm.kExp_2, Hm.kExp_3, Hm.kRet_1, Hm.kRet_2, Hm.kRet_3, Hm.kIff_1, Hm.kIff_2, Hm.kIff_3, Hm.kIff_4, Hm.kAp2_1, Hm.kAp1_1, Hm.kAp1_2, Hm.kAp1_3, Hm.kAp_1, Hm.kPl_1, Hm.kPl_2, Hm.kPd_1, Hm.kPd_2, Hm.kPk_1, Hm.kPk_2, Hm.kP3_1, Hm.kP3_2, Hm.kP2_1, Hm.kP2_2, Hm.kP2_3, Hm.kP1_1, Hm.kP1_2, Hm.kP1_3, Hm.kFor_1, Hm.kFor_2, Hm.kFor_3, Hm.kSeq_1, Hm.kSeq_2, Hm.kSeq_3, Hm.kSeq_4, Hm.kSeq_5, Hm.kSeq_6, Hm.kOp_s, Hm.kOp_n, Hm.kV_1, Hm.kMv_1, Hm.kSv_1, Hm.cr_1, Hm.cr_2, Hm.add_i, Hm.sub_i, Hm.mul_r, Hm.mul_l, Hm.mod_i, Hm.fdiv_i, Hm.lt_i, Hm.le_i, Hm.gt_i, Hm.ge_i, Hm.eq_i, Hm.eq_b, Hm.eq_s, Hm.ne_i, Hm.ne_b, Hm.min_i, Hm.max_i, Hm.isN_, Hm.notN_, Hm.neg_i, Hm.abs_i, Hm.int_i, Hm.int_b, Hm.len_l, Hm.len_t, Hm.ix_l, Hm.ix_t, Hm.tru_b, Hm.tru_i, Hm.own_i, Hm.ownV_v, Hm.lst_, Hm.tup_, Hm.sz_, Hm.join_s, Hm.join_n, Hm.at_0, Hm.at_1, Hm.at_2, Hm.at_3, Hm.at_4, Hm.at_5, Hm.at_6, Hm.at_7, Hm.at_8, Hm.at_9, Hm.at_10, Hm.at_11, Hm.at_12, Hm.at_13, Hm.at_14, Hm.at_15, Hm.at_16, Hm.at_17, Hm.at_18, Hm.at_19, Hm.at_20, Hm.at_21, Hm.at_22, Hm.at_23, Hm.at_24, Hm.at_25, Hm.ix5_0, Hm.ix5_1, Hm.ix5_2, Hm.ix5_3, Hm.ix5_4, Hm.pow_18, Hm.pow_39, Hm.pow_40, held, D.isC, isCs, E.pu, D.isNon, Cn.d, List.length_cons, List.length_nil, List.getElem?_cons_zero, List.getElem?_cons_succ, List.getElem?_nil, List.set_cons_zero, List.set_cons_succ, List.map_cons, List.map_nil, Option.map_some, Option.map_none, decide_eq_true_eq, Bool.true_and, Bool.and_true, Bool.false_and, Bool.and_false, Bool.not_true, Bool.not_false, Bool.or_true, Bool.true_or, Bool.or_false, Bool.false_or, or_true, true_or, or_false, false_or, and_true, true_and, Bool.false_eq_true, reduceCtorEq, not_true_eq_false, not_false_eq_true, Nat.reduceAdd, Nat.reduceLT, Nat.zero_add, eq_self, decide_true, decide_false, ↓reduceIte, Option.isSome_some, Option.isSome_none, ne_eq, Int.reduceNeg, Int.reducePow, Int.reduceLT, Int.reduceLE, Int.reduceEq, Int.reduceSub, Int.reduceAdd, Int.reduceMul, Nat.reducePow, Nat.reduceLeDiff]) s2 s2h
            simp only [b__law_heights, c1, c2, h0', h1, h2, h3, h4, r1, r2, w1, e, Hm.s_set, Hm.s_for, Hm.as_c, Hm.as_g, Hm.as_v, Hm.as_mv, Hm.as_u, Hm.as_b, Hm.as_ix, Hm.as_sl, Hm.as_ch, Hm.as_tb, Hm.as_ife, Hm.as_tup, Hm.as_lst, Hm.as_call, Hm.as_idx, Hm.as_lc, Hm.as_dE, Hm.as_sv, Hm.as_lr, Hm.go_ch, List.contains_nil, List.contains_cons, Nat.reduceBEq, List.any_cons, List.any_nil, beq_self_eq_true, Hm.go_c, Hm.go_g, Hm.go_v, Hm.go_mv, Hm.go_sv, Hm.go_u, Hm.go_b, Hm.go_ix, Hm.go_sl, Hm.go_tb, Hm.go_ife, Hm.go_tup, Hm.go_lst, Hm.go_call, Hm.go_idx, Hm.go_lc, Hm.go_dE, Hm.go_lr, Hm.tst_an, Hm.tst_or, Hm.tst_nt, Hm.tst_one, Hm.tst_e, Hm.val_an, Hm.val_or, Hm.val_nt, Hm.val_one, Hm.val_e, Hm.eo_no, Hm.eo_yes, Hm.to_no, Hm.to_yes, Hm.es_nil, Hm.es_cons, Hm.as_nil, Hm.as_io, Hm.as_ln, Hm.it_seq, Hm.it_scr, Hm.it_rng, Hm.it_enum, Hm.s_expr, Hm.s_ret, Hm.s_iff, Hm.s_app, Hm.s_put, Hm.s_pass, Hm.s_brk, Hm.s_cnt, Hm.ss_nil, Hm.ss_cons, Hm.kU_1, Hm.kU_2, Hm.kU_3, Hm.kB2_1, Hm.kB2_2, Hm.kB2_3, Hm.kB1_1, Hm.kB1_2, Hm.kB1_3, Hm.kI2_1, Hm.kI2_2, Hm.kI2_3, Hm.kI1_1, Hm.kI1_2, Hm.kI1_3, Hm.kS3_1, Hm.kS3_2, Hm.kS3_3, Hm.kS2_1, Hm.kS2_2, Hm.kS2_3, Hm.kS1_1, Hm.kS1_2, Hm.kS1_3, Hm.kC3_1, Hm.kC3_2, Hm.kC3_3, Hm.kC2'_1, Hm.kC2'_2, Hm.kC2_1, Hm.kC2_2, Hm.kC2_3, Hm.kC1_1, Hm.kC1_2, Hm.kC1_3, Hm.kTb_1, Hm.kTb_2, Hm.kTb_3, Hm.kIf_1, Hm.kIf_2, Hm.kIf_3, Hm.kIf_4, Hm.kTup_1, Hm.kTup_2, Hm.kTup_3, Hm.kLst_1, Hm.kLst_2, Hm.kLst_3, Hm.kCall_1, Hm.kCall_2, Hm.kCall_3, Hm.kX2_1, Hm.kX2_2, Hm.kX2_3, Hm.kX1_1, Hm.kX1_2, Hm.kX1_3, Hm.kL2_1, Hm.kL1_1, Hm.kL1_2, Hm.kL1_3, Hm.kLr_1, Hm.kLr_2, Hm.kLr_3, Hm.kOwn_1, Hm.kOwn_2, Hm.kOwn_3, Hm.kAn_1, Hm.kAn_2, Hm.kAn_3, Hm.kAn_4, Hm.kOr_1, Hm.kOr_2, Hm.kOr_3, Hm.kOr_4, Hm.kNt_1, Hm.kNt_2, Hm.kNt_3, Hm.kTr'_1, Hm.kTr'_2, Hm.kTr_1, Hm.kTr_2, Hm.kTr_3, Hm.kAnV_1, Hm.kAnV_2, Hm.kAnV_3, Hm.kAnV_4, Hm.kOrV_1, Hm.kOrV_2, Hm.kOrV_3, Hm.kOrV_4, Hm.kVl_1, Hm.kVl_2, Hm.kVl_3, Hm.kEo_1, Hm.kEo_2, Hm.kEo_3, Hm.kEs2_1, Hm.kEs2_2, Hm.kEs2_3, Hm.kEs1_1, Hm.kEs1_2, Hm.kEs1_3, Hm.kAs2_1, Hm.kAs2_2, Hm.kAs2_3, Hm.kAs1_1, Hm.kAs1_2, Hm.kAs1_3, Hm.kW_1, Hm.kW_2, Hm.kSq_1, Hm.kSq_2, Hm.kSq_3, Hm.kScr_1, Hm.kScr_2, Hm.kScr_3, Hm.kRg_1, Hm.kRg_2, Hm.kRg_3, Hm.kEn_1, Hm.kEn_2, Hm.kEn_3, Hm.kSet_1, Hm.kSet_2, Hm.kSet_3, Hm.kExp_1, Hm.kExp_2, Hm.kExp_3, Hm.kRet_1, Hm.kRet_2, Hm.kRet_3, Hm.kIff_1, Hm.kIff_2, Hm.kIff_3, Hm.kIff_4, Hm.kAp2_1, Hm.kAp1_1, Hm.kAp1_2, Hm.kAp1_3, Hm.kAp_1, Hm.kPl_1, Hm.kPl_2, Hm.kPd_1, Hm.kPd_2, Hm.kPk_1, Hm.kPk_2, Hm.kP3_1, Hm.kP3_2, Hm.kP2_1, Hm.kP2_2, Hm.kP2_3, Hm.kP1_1, Hm.kP1_2, Hm.kP1_3, Hm.kFor_1, Hm.kFor_2, Hm.kFor_3, Hm.kSeq_1, Hm.kSeq_2, Hm.kSeq_3, Hm.kSeq_4, Hm.kSeq_5, Hm.kSeq_6, Hm.kOp_s, Hm.kOp_n, Hm.kV_1, Hm.kMv_1, Hm.kSv_1, Hm.cr_1, Hm.cr_2, Hm.add_i, Hm.sub_i, Hm.mul_r, Hm.mul_l, Hm.mod_i, Hm.fdiv_i, Hm.lt_i, Hm.le_i, Hm.gt_i, Hm.ge_i, Hm.eq_i, Hm.eq_b, Hm.eq_s, Hm.ne_i, Hm.ne_b, Hm.min_i, Hm.max_i, Hm.isN_, Hm.notN_, Hm.neg_i, Hm.abs_i, Hm.int_i, Hm.int_b, Hm.len_l, Hm.len_t, Hm.ix_l, Hm.ix_t, Hm.tru_b, Hm.tru_i, Hm.own_i, Hm.ownV_v, Hm.lst_, Hm.tup_, Hm.sz_, Hm.join_s, Hm.join_n, Hm.at_0, Hm.at_1, Hm.at_2, Hm.at_3, Hm.at_4, Hm.at_5, Hm.at_6, Hm.at_7, Hm.at_8, Hm.at_9, Hm.at_10, Hm.at_11, Hm.at_12, Hm.at_13, Hm.at_14, Hm.at_15, Hm.at_16, Hm.at_17, Hm.at_18, Hm.at_19, Hm.at_20, Hm.at_21, Hm.at_22, Hm.at_23, Hm.at_24, Hm.at_25, Hm.ix5_0, Hm.ix5_1, Hm.ix5_2, Hm.ix5_3, Hm.ix5_4, Hm.pow_18, Hm.pow_39, Hm.pow_40, held, D.isC, isCs, E.pu, D.isNon, Cn.d, List.length_cons, List.length_nil, List.getElem?_cons_zero, List.getElem?_cons_succ, List.getElem?_nil, List.set_cons_zero, List.set_cons_succ, List.map_cons, List.map_nil, Option.map_some, Option.map_none, decide_eq_true_eq, Bool.true_and, Bool.and_true, Bool.false_and, Bool.and_false, Bool.not_true, Bool.not_false, Bool.or_true, Bool.true_or, Bool.or_false, Bool.false_or, or_true, true_or, or_false, false_or, and_true, true_and, Bool.false_eq_true, reduceCtorEq, not_true_eq_false, not_false_eq_true, Nat.reduceAdd, Nat.reduceLT, Nat.zero_add, eq_self, decide_true, decide_false, ↓reduceIte, Option.isSome_some, Option.isSome_none, ne_eq, Int.reduceNeg, Int.reducePow, Int.reduceLT, Int.reduceLE, Int.reduceEq, Int.reduceSub, Int.reduceAdd, Int.reduceMul, Nat.reducePow, Nat.reduceLeDiff]
            exact ⟨_, _, rfl, hs', hn⟩
end Lw
end
section
set_option Elab.async false
set_option linter.all false
set_option maxRecDepth 100000
set_option maxHeartbeats 1000000
namespace Lw
open PySem PySem.Spec PyProof.Rows L2 Hm
/-! ### the different ones -/
def fnd : List Int → List Int → List Int
  | fs, [] => fs
  | fs, y :: ys => if fs = [] ∨ fs.getLastD 0 < y then fnd (fs ++ [y]) ys else fnd fs ys
theorem fnd_ded : ∀ (ys fs : List Int) (y : Int), (y :: ys).Pairwise (· ≤ ·) → fnd (fs ++ [y]) ys = fs ++ dedI (y :: ys) := by
  intro ys
  induction ys with
  | nil => intro fs y _; rfl
  | cons z r ih =>
    intro fs y h
    have h1 : y ≤ z := (List.pairwise_cons.mp h).1 z List.mem_cons_self
    have h2 : (z :: r).Pairwise (· ≤ ·) := (List.pairwise_cons.mp h).2
    have hl : (fs ++ [y]).getLastD 0 = y := by simp
    unfold fnd dedI
    by_cases e : y = z
    · subst e
      rw [if_pos rfl, if_neg (by rw [hl]; simp), ih fs y h2]
    · rw [if_neg e, if_pos (.inr (by rw [hl]; omega)), ih (fs ++ [y]) z h2, List.append_assoc]
      rfl
theorem srt_pw (zs : List Int) : (srtI zs).Pairwise (· ≤ ·) := by
  have h := List.pairwise_mergeSort (le := fun (a b : Int) => decide (a ≤ b)) (by intro a b c; simp; omega) (by intro a b; simp; omega) zs
  exact h.imp fun h => of_decide_eq_true h
theorem fnd_srt (zs : List Int) : fnd [] (srtI zs) = dedI (srtI zs) := by
  have h := srt_pw zs
  cases e : srtI zs with
  | nil => rfl
  | cons y ys =>
    rw [e] at h
    unfold fnd
    rw [if_pos (.inl rfl), fnd_ded ys [] y h]
    rfl
theorem mem_ded : ∀ (xs : List Int) (a : Int), a ∈ xs → a ∈ dedI xs := by
  intro xs
  induction xs with
  | nil => intro a h; exact h
  | cons x r ih =>
    intro a h
    cases r with
    | nil => exact h
    | cons y r =>
      unfold dedI
      by_cases e : x = y
      · rw [if_pos e]
        rcases List.mem_cons.mp h with rfl | h
        · exact ih a (e ▸ List.mem_cons_self)
        · exact ih a h
      · rw [if_neg e]
        rcases List.mem_cons.mp h with rfl | h
        · exact List.mem_cons_self
        · exact List.mem_cons_of_mem _ (ih a h)
theorem mem_srt {zs : List Int} {a : Int} : a ∈ srtI zs ↔ a ∈ zs := List.mem_mergeSort
/-- the place among the different ones -/
def rk (ds : List Int) (z : Int) : Int := ((ds.findIdx? fun d => d == z).getD 0 : Nat)
theorem pys_int : ∀ zs : List Int, pysF (zs.map .int) = some (zs.map .int)
  | [] => rfl
  | z :: zs => by rw [List.map_cons, pysF, pys_int zs]; rfl
theorem lay_int : ∀ zs : List Int, PyData.canLayAll0 (zs.map .int) = true
  | [] => rfl
  | z :: zs => by rw [List.map_cons, PyData.canLayAll0, lay_int zs]; rfl
theorem dep_int : ∀ zs : List Int, PyData.depthAll (zs.map .int) ≤ 1
  | [] => by simp [PyData.depthAll]
  | z :: zs => by
    have := dep_int zs
    rw [List.map_cons, PyData.depthAll, PyData.depth]
    omega
theorem eq_nil {o o' : Bool} {fs : List Int} : B2.go .eq (.lst o (fs.map .int)) (.lst o' []) = some (.bl fs.isEmpty) := by
  have h1 : D.py (.lst o (fs.map .int)) = some (.list (fs.map .int)) := by rw [D.py, pys_int]; rfl
  have h2 : D.py (.lst o' []) = some (.list []) := rfl
  have s1 : SeqAt.shaped (.list (fs.map .int)) = true := by
    unfold SeqAt.shaped
    have := dep_int fs
    rw [PyData.canLay0, lay_int, PyData.depth, Bool.true_and, decide_eq_true_eq]
    omega
  have s2 : SeqAt.shaped (.list []) = true := rfl
  show ((match D.py (.lst o (fs.map .int)), D.py (.lst o' []) with
    | some x, some y => if SeqAt.shaped x = true ∧ SeqAt.shaped y = true then some (PyData.eqv x y) else none
    | _, _ => none).map D.bl) = _
  rw [h1, h2]
  show (if SeqAt.shaped (.list (fs.map .int)) = true ∧ SeqAt.shaped (.list []) = true then some (PyData.eqv (.list (fs.map .int)) (.list [])) else none).map D.bl = _
  rw [if_pos ⟨s1, s2⟩]
  cases fs <;> rfl
theorem cl12 (n : Nat) (ds : List D) : F (n + 1) 12 ds = d__law_due_ranks.run (F n) ds := rfl
def b_due_for : Ss := .cons (.iff (.or (.e (.b .eq (.v 1) (.lst .nil))) (.one (.e (.b .lt (.ix (.v 1) (.b .sub (.u .len (.v 1)) (.c (.int 1)))) (.v 2))))) (.cons (.app 1 (.v 2)) .nil) .nil) .nil
theorem last_at (fs : List Int) (h : fs ≠ []) : L2.atI (fs.map D.int) (((fs.map D.int).length : Int) - 1) = some (.int (fs.getLastD 0)) := by
  have h1 : 0 < fs.length := List.length_pos_iff.mpr h
  have q := atI_nat (xs := fs.map D.int) (j := fs.length - 1) (v := .int (fs.getLastD 0)) (by
    rw [List.getElem?_map, List.getElem?_eq_getElem (by omega), ← List.getLast_eq_getElem h, List.getLastD_eq_getLast?, List.getLast?_eq_getLast h]
    rfl)
  rw [List.length_map]
  rwa [show ((fs.length - 1 : Nat) : Int) = (fs.length : Int) - 1 by omega] at q
theorem due_for (n : Nat) (x0 : Option D) : ∀ (ys fs : List Int) (x2 : Option D), fs.length + ys.length < 16777216 → ∃ y2, forG (F n) [] [2] b_due_for (ys.map fun y => [.int y]) [x0, some (.lst true (fs.map .int)), x2] = .nx [x0, some (.lst true ((fnd fs ys).map .int)), y2] := by
  intro ys
  induction ys with
  | nil => intro fs x2 _; exact ⟨x2, rfl⟩
  | cons y ys ih =>
    intro fs x2 hl
    rw [List.length_cons] at hl
    rw [List.map_cons, forG_cons rfl rfl]
    show ∃ y2, kFo (F n) [] [2] b_due_for (ys.map fun y => [.int y]) (Ss.go (F n) [] b_due_for [x0, some (.lst true (fs.map .int)), some (.int y)]) = _
    have hs : (fs.map D.int).length < 16777216 := by rw [List.length_map]; omega
    have e : Ss.go (F n) [] b_due_for [x0, some (.lst true (fs.map .int)), some (.int y)] = .nx [x0, some (.lst true ((if fs = [] ∨ fs.getLastD 0 < y then fs ++ [y] else fs).map .int)), some (.int y)] := by
      by_cases h0 : fs = []
      · subst h0
        have h1 := eq_nil (o := true) (o' := true) (fs := [])
        simp only [List.map_nil, List.isEmpty_nil] at h1
        simp only [b_due_for, h1, Hm.s_set, Hm.s_for, Hm.as_c, Hm.as_g, Hm.as_v, Hm.as_mv, Hm.as_u, Hm.as_b, Hm.as_ix, Hm.as_sl, Hm.as_ch, Hm.as_tb, Hm.as_ife, Hm.as_tup, Hm.as_lst, Hm.as_call, Hm.as_idx, Hm.as_lc, Hm.as_dE, Hm.as_sv, Hm.as_lr, Hm.go_ch, List.contains_nil, List.contains_cons, Nat.reduceBEq, List.any_cons, List.any_nil, beq_self_eq_true, Hm.go_c, Hm.go_g, Hm.go_v, Hm.go_mv, Hm.go_sv, Hm.go_u, Hm.go_b, Hm.go_ix, Hm.go_sl, Hm.go_tb, Hm.go_ife, Hm.go_tup, Hm.go_lst, Hm.go_call, Hm.go_idx, Hm.go_lc, Hm.go_dE, Hm.go_lr, Hm.tst_an, Hm.tst_or, Hm.tst_nt, Hm.tst_one, Hm.tst_e, Hm.val_an, Hm.val_or, Hm.val_nt, Hm.val_one, Hm.val_e, Hm.eo_no, Hm.eo_yes, Hm.to_no, Hm.to_yes, Hm.es_nil, Hm.es_cons, Hm.as_nil, Hm.as_io, Hm.as_ln, Hm.it_seq, Hm.it_scr, Hm.it_rng, Hm.it_enum, Hm.s_expr, Hm.s_ret, Hm.s_iff, Hm.s_app, Hm.s_put, Hm.s_pass, Hm.s_brk, Hm.s_cnt, Hm.ss_nil, Hm.ss_cons, Hm.kU_1, Hm.kU_2, Hm.kU_3, Hm.kB2_1, Hm.kB2_2, Hm.kB2_3, Hm.kB1_1, Hm.kB1_2, Hm.kB1_3, Hm.kI2_1, Hm.kI2_2, Hm.kI2_3, Hm.kI1_1, Hm.kI1_2, Hm.kI1_3, Hm.kS3_1, Hm.kS3_2, Hm.kS3_3, Hm.kS2_1, Hm.kS2_2, Hm.kS2_3, Hm.kS1_1, Hm.kS1_2, Hm.kS1_3, Hm.kC3_1, Hm.kC3_2, Hm.kC3_3, Hm.kC2'_1, Hm.kC2'_2, Hm.kC2_1, Hm.kC2_2, Hm.kC2_3, Hm.kC1_1, Hm.kC1_2, Hm.kC1_3, Hm.kTb_1, Hm.kTb_2, Hm.kTb_3, Hm.kIf_1, Hm.kIf_2, Hm.kIf_3, Hm.kIf_4, Hm.kTup_1, Hm.kTup_2, Hm.kTup_3, Hm.kLst_1, Hm.kLst_2, Hm.kLst_3, Hm.kCall_1, Hm.kCall_2, Hm.kCall_3, Hm.kX2_1, Hm.kX2_2, Hm.kX2_3, Hm.kX1_1, Hm.kX1_2, Hm.kX1_3, Hm.kL2_1, Hm.kL1_1, Hm.kL1_2, Hm.kL1_3, Hm.kLr_1, Hm.kLr_2, Hm.kLr_3, Hm.kOwn_1, Hm.kOwn_2, Hm.kOwn_3, Hm.kAn_1, Hm.kAn_2, Hm.kAn_3, Hm.kAn_4, Hm.kOr_1, Hm.kOr_2, Hm.kOr_3, Hm.kOr_4, Hm.kNt_1, Hm.kNt_2, Hm.kNt_3, Hm.kTr'_1, Hm.kTr'_2, Hm.kTr_1, Hm.kTr_2, Hm.kTr_3, Hm.kAnV_1, Hm.kAnV_2, Hm.kAnV_3, Hm.kAnV_4, Hm.kOrV_1, Hm.kOrV_2, Hm.kOrV_3, Hm.kOrV_4, Hm.kVl_1, Hm.kVl_2, Hm.kVl_3, Hm.kEo_1, Hm.kEo_2, Hm.kEo_3, Hm.kEs2_1, Hm.kEs2_2, Hm.kEs2_3, Hm.kEs1_1, Hm.kEs1_2, Hm.kEs1_3, Hm.kAs2_1, Hm.kAs2_2, Hm.kAs2_3, Hm.kAs1_1, Hm.kAs1_2, Hm.kAs1_3, Hm.kW_1, Hm.kW_2, Hm.kSq_1, Hm.kSq_2, Hm.kSq_3, Hm.kScr_1, Hm.kScr_2, Hm.kScr_3, Hm.kRg_1, Hm.kRg_2, Hm.kRg_3, Hm.kEn_1, Hm.kEn_2, Hm.kEn_3, Hm.kSet_1, Hm.kSet_2, Hm.kSet_3, Hm.kExp_1, Hm.kExp_2, Hm.kExp_3, Hm.kRet_1, Hm.kRet_2, Hm.kRet_3, Hm.kIff_1, Hm.kIff_2, Hm.kIff_3, Hm.kIff_4, Hm.kAp2_1, Hm.kAp1_1, Hm.kAp1_2, Hm.kAp1_3, Hm.kAp_1, Hm.kPl_1, Hm.kPl_2, Hm.kPd_1, Hm.kPd_2, Hm.kPk_1, Hm.kPk_2, Hm.kP3_1, Hm.kP3_2, Hm.kP2_1, Hm.kP2_2, Hm.kP2_3, Hm.kP1_1, Hm.kP1_2, Hm.kP1_3, Hm.kFor_1, Hm.kFor_2, Hm.kFor_3, Hm.kSeq_1, Hm.kSeq_2, Hm.kSeq_3, Hm.kSeq_4, Hm.kSeq_5, Hm.kSeq_6, Hm.kOp_s, Hm.kOp_n, Hm.kV_1, Hm.kMv_1, Hm.kSv_1, Hm.cr_1, Hm.cr_2, Hm.add_i, Hm.sub_i, Hm.mul_r, Hm.mul_l, Hm.mod_i, Hm.fdiv_i, Hm.lt_i, Hm.le_i, Hm.gt_i, Hm.ge_i, Hm.eq_i, Hm.eq_b, Hm.eq_s, Hm.ne_i, Hm.ne_b, Hm.min_i, Hm.max_i, Hm.isN_, Hm.notN_, Hm.neg_i, Hm.abs_i, Hm.int_i, Hm.int_b, Hm.len_l, Hm.len_t, Hm.ix_l, Hm.ix_t, Hm.tru_b, Hm.tru_i, Hm.own_i, Hm.ownV_v, Hm.lst_, Hm.tup_, Hm.sz_, Hm.join_s, Hm.join_n, Hm.at_0, Hm.at_1, Hm.at_2, Hm.at_3, Hm.at_4, Hm.at_5, Hm.at_6, Hm.at_7, Hm.at_8, Hm.at_9, Hm.at_10, Hm.at_11, Hm.at_12, Hm.at_13, Hm.at_14, Hm.at_15, Hm.at_16, Hm.at_17, Hm.at_18, Hm.at_19, Hm.at_20, Hm.at_21, Hm.at_22, Hm.at_23, Hm.at_24, Hm.at_25, Hm.ix5_0, Hm.ix5_1, Hm.ix5_2, Hm.ix5_3, Hm.ix5_4, Hm.pow_18, Hm.pow_39, Hm.pow_40, held, D.isC, isCs, E.pu, D.isNon, Cn.d, List.length_cons, List.length_nil, List.getElem?_cons_zero, List.getElem?_cons_succ, List.getElem?_nil, List.set_cons_zero, List.set_cons_succ, List.map_cons, List.map_nil, Option.map_some, Option.map_none, decide_eq_true_eq, Bool.true_and, Bool.and_true, Bool.false_and, Bool.and_false, Bool.not_true, Bool.not_false, Bool.or_true, Bool.true_or, Bool.or_false, Bool.false_or, or_true, true_or, or_false, false_or, and_true, true_and, Bool.false_eq_true, reduceCtorEq, not_true_eq_false, not_false_eq_true, Nat.reduceAdd, Nat.reduceLT, Nat.zero_add, eq_self, decide_true, decide_false, ↓reduceIte, Option.isSome_some, Option.isSome_none, ne_eq, Int.reduceNeg, Int.reducePow, Int.reduceLT, Int.reduceLE, Int.reduceEq, Int.reduceSub, Int.reduceAdd, Int.reduceMul, Nat.reducePow, Nat.reduceLeDiff]
        rfl
      · have h1 := eq_nil (o := true) (o' := true) (fs := fs)
        rw [show fs.isEmpty = false by cases fs <;> trivial] at h1
        have h2 := last_at fs h0
        by_cases h3 : fs.getLastD 0 < y
        · simp only [b_due_for, h0, h1, h2, h3, hs, Hm.s_set, Hm.s_for, Hm.as_c, Hm.as_g, Hm.as_v, Hm.as_mv, Hm.as_u, Hm.as_b, Hm.as_ix, Hm.as_sl, Hm.as_ch, Hm.as_tb, Hm.as_ife, Hm.as_tup, Hm.as_lst, Hm.as_call, Hm.as_idx, Hm.as_lc, Hm.as_dE, Hm.as_sv, Hm.as_lr, Hm.go_ch, List.contains_nil, List.contains_cons, Nat.reduceBEq, List.any_cons, List.any_nil, beq_self_eq_true, Hm.go_c, Hm.go_g, Hm.go_v, Hm.go_mv, Hm.go_sv, Hm.go_u, Hm.go_b, Hm.go_ix, Hm.go_sl, Hm.go_tb, Hm.go_ife, Hm.go_tup, Hm.go_lst, Hm.go_call, Hm.go_idx, Hm.go_lc, Hm.go_dE, Hm.go_lr, Hm.tst_an, Hm.tst_or, Hm.tst_nt, Hm.tst_one, Hm.tst_e, Hm.val_an, Hm.val_or, Hm.val_nt, Hm.val_one, Hm.val_e, Hm.eo_no, Hm.eo_yes, Hm.to_no, Hm.to_yes, Hm.es_nil, Hm.es_cons, Hm.as_nil, Hm.as_io, Hm.as_ln, Hm.it_seq, Hm.it_scr, Hm.it_rng, Hm.it_enum, Hm.s_expr, Hm.s_ret, Hm.s_iff, Hm.s_app, Hm.s_put, Hm.s_pass, Hm.s_brk, Hm.s_cnt, Hm.ss_nil, Hm.ss_cons, Hm.kU_1, Hm.kU_2, Hm.kU_3, Hm.kB2_1, Hm.kB2_2, Hm.kB2_3, Hm.kB1_1, Hm.kB1_2, Hm.kB1_3, Hm.kI2_1, Hm.kI2_2, Hm.kI2_3, Hm.kI1_1, Hm.kI1_2, Hm.kI1_3, Hm.kS3_1, Hm.kS3_2, Hm.kS3_3, Hm.kS2_1, Hm.kS2_2, Hm.kS2_3, Hm.kS1_1, Hm.kS1_2, Hm.kS1_3, Hm.kC3_1, Hm.kC3_2, Hm.kC3_3, Hm.kC2'_1, Hm.kC2'_2, Hm.kC2_1, Hm.kC2_2, Hm.kC2_3, Hm.kC1_1, Hm.kC1_2, Hm.kC1_3, Hm.kTb_1, Hm.kTb_2, Hm.kTb_3, Hm.kIf_1, Hm.kIf_2, Hm.kIf_3, Hm.kIf_4, Hm.kTup_1, Hm.kTup_2, Hm.kTup_3, Hm.kLst_1, Hm.kLst_2, Hm.kLst_3, Hm.kCall_1, Hm.kCall_2, Hm.kCall_3, Hm.kX2_1, Hm.kX2_2, Hm.kX2_3, Hm.kX1_1, Hm.kX1_2, Hm.kX1_3, Hm.kL2_1, Hm.kL1_1, Hm.kL1_2, Hm.kL1_3, Hm.kLr_1, Hm.kLr_2, Hm.kLr_3, Hm.kOwn_1, Hm.kOwn_2, Hm.kOwn_3, Hm.kAn_1, Hm.kAn_2, Hm.kAn_3, Hm.kAn_4, Hm.kOr_1, Hm.kOr_2, Hm.kOr_3, Hm.kOr_4, Hm.kNt_1, Hm.kNt_2, Hm.kNt_3, Hm.kTr'_1, Hm.kTr'_2, Hm.kTr_1, Hm.kTr_2, Hm.kTr_3, Hm.kAnV_1, Hm.kAnV_2, Hm.kAnV_3, Hm.kAnV_4, Hm.kOrV_1, Hm.kOrV_2, Hm.kOrV_3, Hm.kOrV_4, Hm.kVl_1, Hm.kVl_2, Hm.kVl_3, Hm.kEo_1, Hm.kEo_2, Hm.kEo_3, Hm.kEs2_1, Hm.kEs2_2, Hm.kEs2_3, Hm.kEs1_1, Hm.kEs1_2, Hm.kEs1_3, Hm.kAs2_1, Hm.kAs2_2, Hm.kAs2_3, Hm.kAs1_1, Hm.kAs1_2, Hm.kAs1_3, Hm.kW_1, Hm.kW_2, Hm.kSq_1, Hm.kSq_2, Hm.kSq_3, Hm.kScr_1, Hm.kScr_2, Hm.kScr_3, Hm.kRg_1, Hm.kRg_2, Hm.kRg_3, Hm.kEn_1, Hm.kEn_2, Hm.kEn_3, Hm.kSet_1, Hm.kSet_2, Hm.kSet_3, Hm.kExp_1, Hm.kExp_2, Hm.kExp_3, Hm.kRet_1, Hm.kRet_2, Hm.kRet_3, Hm.kIff_1, Hm.kIff_2, Hm.kIff_3, Hm.kIff_4, Hm.kAp2_1, Hm.kAp1_1, Hm.kAp1_2, Hm.kAp1_3, Hm.kAp_1, Hm.kPl_1, Hm.kPl_2, Hm.kPd_1, Hm.kPd_2, Hm.kPk_1, Hm.kPk_2, Hm.kP3_1, Hm.kP3_2, Hm.kP2_1, Hm.kP2_2, Hm.kP2_3, Hm.kP1_1, Hm.kP1_2, Hm.kP1_3, Hm.kFor_1, Hm.kFor_2, Hm.kFor_3, Hm.kSeq_1, Hm.kSeq_2, Hm.kSeq_3, Hm.kSeq_4, Hm.kSeq_5, Hm.kSeq_6, Hm.kOp_s, Hm.kOp_n, Hm.kV_1, Hm.kMv_1, Hm.kSv_1, Hm.cr_1, Hm.cr_2, Hm.add_i, Hm.sub_i, Hm.mul_r, Hm.mul_l, Hm.mod_i, Hm.fdiv_i, Hm.lt_i, Hm.le_i, Hm.gt_i, Hm.ge_i, Hm.eq_i, Hm.eq_b, Hm.eq_s, Hm.ne_i, Hm.ne_b, Hm.min_i, Hm.max_i, Hm.isN_, Hm.notN_, Hm.neg_i, Hm.abs_i, Hm.int_i, Hm.int_b, Hm.len_l, Hm.len_t, Hm.ix_l, Hm.ix_t, Hm.tru_b, Hm.tru_i, Hm.own_i, Hm.ownV_v, Hm.lst_, Hm.tup_, Hm.sz_, Hm.join_s, Hm.join_n, Hm.at_0, Hm.at_1, Hm.at_2, Hm.at_3, Hm.at_4, Hm.at_5, Hm.at_6, Hm.at_7, Hm.at_8, Hm.at_9, Hm.at_10, Hm.at_11, Hm.at_12, Hm.at_13, Hm.at_14, Hm.at_15, Hm.at_16, Hm.at_17, Hm.at_18, Hm.at_19, Hm.at_20, Hm.at_21, Hm.at_22, Hm.at_23, Hm.at_24, Hm.at_25, Hm.ix5_0, Hm.ix5_1, Hm.ix5_2, Hm.ix5_3, Hm.ix5_4, Hm.pow_18, Hm.pow_39, Hm.pow_40, held, D.isC, isCs, E.pu, D.isNon, Cn.d, List.length_cons, List.length_nil, List.getElem?_cons_zero, List.getElem?_cons_succ, List.getElem?_nil, List.set_cons_zero, List.set_cons_succ, List.map_cons, List.map_nil, Option.map_some, Option.map_none, decide_eq_true_eq, Bool.true_and, Bool.and_true, Bool.false_and, Bool.and_false, Bool.not_true, Bool.not_false, Bool.or_true, Bool.true_or, Bool.or_false, Bool.false_or, or_true, true_or, or_false, false_or, and_true, true_and, Bool.false_eq_true, reduceCtorEq, not_true_eq_false, not_false_eq_true, Nat.reduceAdd, Nat.reduceLT, Nat.zero_add, eq_self, decide_true, decide_false, ↓reduceIte, Option.isSome_some, Option.isSome_none, ne_eq, Int.reduceNeg, Int.reducePow, Int.reduceLT, Int.reduceLE, Int.reduceEq, Int.reduceSub, Int.reduceAdd, Int.reduceMul, Nat.reducePow, Nat.reduceLeDiff]
          rw [List.map_append]
          rfl
        · simp only [b_due_for, h0, h1, h2, h3, hs, Hm.s_set, Hm.s_for, Hm.as_c, Hm.as_g, Hm.as_v, Hm.as_mv, Hm.as_u, Hm.as_b, Hm.as_ix, Hm.as_sl, Hm.as_ch, Hm.as_tb, Hm.as_ife, Hm.as_tup, Hm.as_lst, Hm.as_call, Hm.as_idx, Hm.as_lc, Hm.as_dE, Hm.as_sv, Hm.as_lr, Hm.go_ch, List.contains_nil, List.contains_cons, Nat.reduceBEq, List.any_cons, List.any_nil, beq_self_eq_true, Hm.go_c, Hm.go_g, Hm.go_v, Hm.go_mv, Hm.go_sv, Hm.go_u, Hm.go_b, Hm.go_ix, Hm.go_sl, Hm.go_tb, Hm.go_ife, Hm.go_tup, Hm.go_lst, Hm.go_call, Hm.go_idx, Hm.go_lc, Hm.go_dE, Hm.go_lr, Hm.tst_an, Hm.tst_or, Hm.tst_nt, Hm.tst_one, Hm.tst_e, Hm.val_an, Hm.val_or, Hm.val_nt, Hm.val_one, Hm.val_e, Hm.eo_no, Hm.eo_yes, Hm.to_no, Hm.to_yes, Hm.es_nil, Hm.es_cons, Hm.as_nil, Hm.as_io, Hm.as_ln, Hm.it_seq, Hm.it_scr, Hm.it_rng, Hm.it_enum, Hm.s_expr, Hm.s_ret, Hm.s_iff, Hm.s_app, Hm.s_put, Hm.s_pass, Hm.s_brk, Hm.s_cnt, Hm.ss_nil, Hm.ss_cons, Hm.kU_1, Hm.kU_2, Hm.kU_3, Hm.kB2_1, Hm.kB2_2, Hm.kB2_3, Hm.kB1_1, Hm.kB1_2, Hm.kB1_3, Hm.kI2_1, Hm.kI2_2, Hm.kI2_3, Hm.kI1_1, Hm.kI1_2, Hm.kI1_3, Hm.kS3_1, Hm.kS3_2, Hm.kS3_3, Hm.kS2_1, Hm.kS2_2, Hm.kS2_3, Hm.kS1_1, Hm.kS1_2, Hm.kS1_3, Hm.kC3_1, Hm.kC3_2, Hm.kC3_3, Hm.kC2'_1, Hm.kC2'_2, Hm.kC2_1, Hm.kC2_2, Hm.kC2_3, Hm.kC1_1, Hm.kC1_2, Hm.kC1_3, Hm.kTb_1, Hm.kTb_2, Hm.kTb_3, Hm.kIf_1, Hm.kIf_2, Hm.kIf_3, Hm.kIf_4, Hm.kTup_1, Hm.kTup_2, Hm.kTup_3, Hm.kLst_1, Hm.kLst_2, Hm.kLst_3, Hm.kCall_1, Hm.kCall_2, Hm.kCall_3, Hm.kX2_1, Hm.kX2_2, Hm.kX2_3, Hm.kX1_1, Hm.kX1_2, Hm.kX1_3, Hm.kL2_1, Hm.kL1_1, Hm.kL1_2, Hm.kL1_3, Hm.kLr_1, Hm.kLr_2, Hm.kLr_3, Hm.kOwn_1, Hm.kOwn_2, Hm.kOwn_3, Hm.kAn_1, Hm.kAn_2, Hm.kAn_3, Hm.kAn_4, Hm.kOr_1, Hm.kOr_2, Hm.kOr_3, Hm.kOr_4, Hm.kNt_1, Hm.kNt_2, Hm.kNt_3, Hm.kTr'_1, Hm.kTr'_2, Hm.kTr_1, Hm.kTr_2, Hm.kTr_3, Hm.kAnV_1, Hm.kAnV_2, Hm.kAnV_3, Hm.kAnV_4, Hm.kOrV_1, Hm.kOrV_2, Hm.kOrV_3, Hm.kOrV_4, Hm.kVl_1, Hm.kVl_2, Hm.kVl_3, Hm.kEo_1, Hm.kEo_2, Hm.kEo_3, Hm.kEs2_1, Hm.kEs2_2, Hm.kEs2_3, Hm.kEs1_1, Hm.kEs1_2, Hm.kEs1_3, Hm.kAs2_1, Hm.kAs2_2, Hm.kAs2_3, Hm.kAs1_1, Hm.kAs1_2, Hm.kAs1_3, Hm.kW_1, Hm.kW_2, Hm.kSq_1, Hm.kSq_2, Hm.kSq_3, Hm.kScr_1, Hm.kScr_2, Hm.kScr_3, Hm.kRg_1, Hm.kRg_2, Hm.kRg_3, Hm.kEn_1, Hm.kEn_2, Hm.kEn_3, Hm.kSet_1, Hm.kSet_2, Hm.kSet_3, Hm.kExp_1, Hm.kExp_2, Hm.kExp_3, Hm.kRet_1, Hm.kRet_2, Hm.kRet_3, Hm.kIff_1, Hm.kIff_2, Hm.kIff_3, Hm.kIff_4, Hm.kAp2_1, Hm.kAp1_1, Hm.kAp1_2, Hm.kAp1_3, Hm.kAp_1, Hm.kPl_1, Hm.kPl_2, Hm.kPd_1, Hm.kPd_2, Hm.kPk_1, Hm.kPk_2, Hm.kP3_1, Hm.kP3_2, Hm.kP2_1, Hm.kP2_2, Hm.kP2_3, Hm.kP1_1, Hm.kP1_2, Hm.kP1_3, Hm.kFor_1, Hm.kFor_2, Hm.kFor_3, Hm.kSeq_1, Hm.kSeq_2, Hm.kSeq_3, Hm.kSeq_4, Hm.kSeq_5, Hm.kSeq_6, Hm.kOp_s, Hm.kOp_n, Hm.kV_1, Hm.kMv_1, Hm.kSv_1, Hm.cr_1, Hm.cr_2, Hm.add_i, Hm.sub_i, Hm.mul_r, Hm.mul_l, Hm.mod_i, Hm.fdiv_i, Hm.lt_i, Hm.le_i, Hm.gt_i, Hm.ge_i, Hm.eq_i, Hm.eq_b, Hm.eq_s, Hm.ne_i, Hm.ne_b, Hm.min_i, Hm.max_i, Hm.isN_, Hm.notN_, Hm.neg_i, Hm.abs_i, Hm.int_i, Hm.int_b, Hm.len_l, Hm.len_t, Hm.ix_l, Hm.ix_t, Hm.tru_b, Hm.tru_i, Hm.own_i, Hm.ownV_v, Hm.lst_, Hm.tup_, Hm.sz_, Hm.join_s, Hm.join_n, Hm.at_0, Hm.at_1, Hm.at_2, Hm.at_3, Hm.at_4, Hm.at_5, Hm.at_6, Hm.at_7, Hm.at_8, Hm.at_9, Hm.at_10, Hm.at_11, Hm.at_12, Hm.at_13, Hm.at_14, Hm.at_15, Hm.at_16, Hm.at_17, Hm.at_18, Hm.at_19, Hm.at_20, Hm.at_21, Hm.at_22, Hm.at_23, Hm.at_24, Hm.at_25, Hm.ix5_0, Hm.ix5_1, Hm.ix5_2, Hm.ix5_3, Hm.ix5_4, Hm.pow_18, Hm.pow_39, Hm.pow_40, held, D.isC, isCs, E.pu, D.isNon, Cn.d, List.length_cons, List.length_nil, List.getElem?_cons_zero, List.getElem?_cons_succ, List.getElem?_nil, List.set_cons_zero, List.set_cons_succ, List.map_cons, List.map_nil, Option.map_some, Option.map_none, decide_eq_true_eq, Bool.true_and, Bool.and_true, Bool.false_and, Bool.and_false, Bool.not_true, Bool.not_false, Bool.or_true, Bool.true_or, Bool.or_false, Bool.false_or, or_true, true_or, or_false, false_or, and_true, true_and, Bool.false_eq_true, reduceCtorEq, not_true_eq_false, not_false_eq_true, Nat.reduceAdd, Nat.reduceLT, Nat.zero_add, eq_self, decide_true, decide_false, ↓reduceIte, Option.isSome_some, Option.isSome_none, ne_eq, Int.reduceNeg, Int.reducePow, Int.reduceLT, Int.reduceLE, Int.reduceEq, Int.reduceSub, Int.reduceAdd, Int.reduceMul, Nat.reducePow, Nat.reduceLeDiff]
    rw [e]
    by_cases h3 : fs = [] ∨ fs.getLastD 0 < y
    · obtain ⟨y2, e2⟩ := ih (fs ++ [y]) (some (.int y)) (by rw [List.length_append, List.length_cons, List.length_nil]; omega)
      refine ⟨y2, ?_⟩
      rw [if_pos h3]
      unfold fnd
      rw [if_pos h3]
      exact e2
    · obtain ⟨y2, e2⟩ := ih fs (some (.int y)) (by omega)
      refine ⟨y2, ?_⟩
      rw [if_neg h3]
      unfold fnd
      rw [if_neg h3]
      exact e2
theorem flat_ints (zs : List Int) : (zs.map D.int).all D.flat = true := by
  rw [List.all_map]
  exact List.all_eq_true.mpr fun _ _ => rfl
theorem fx_ints (ds : List Int) (z : Int) (h : z ∈ ds) : ((ds.map D.int).findIdx? fun d => eqF d (.int z)) = some ((ds.findIdx? fun d => d == z).getD 0) := by
  have e : ((ds.map D.int).findIdx? fun d => eqF d (.int z)) = ds.findIdx? fun d => d == z := by
    rw [List.findIdx?_map]
    rfl
  rw [e]
  cases e2 : ds.findIdx? fun d => d == z with
  | some j => rfl
  | none =>
    rw [List.findIdx?_eq_none_iff] at e2
    have := e2 z h
    simp at this
theorem sorted_l {o : Bool} {zs : List Int} : U1.go .sorted (.lst o (zs.map .int)) = some (.lst true ((srtI zs).map .int)) := by
  have h : intsOf (zs.map D.int) = some zs := by
    induction zs with
    | nil => rfl
    | cons z zs ih => rw [List.map_cons, intsOf, ih]; rfl
  show (match intsOf (zs.map D.int) with | some ns => some (D.lst true ((srtI ns).map .int)) | none => none) = _
  rw [h]
theorem due_ranks (n : Nat) (o : Bool) (zs : List Int) (hz : zs.length < 16777216) : F (n + 1) 12 [.lst o (zs.map .int)] = .ok (.lst true ((zs.map (rk (dedI (srtI zs)))).map .int)) [none] := by
  rw [cl12, Df.run_eq _ _ _ rfl]
  show (Ss.go (F n) [] b__law_due_ranks [some (.lst o (zs.map .int)), none, none]).toCR d__law_due_ranks = .ok (.lst true ((zs.map (rk (dedI (srtI zs)))).map .int)) [none]
  have hln : (srtI zs).length = zs.length := List.length_mergeSort ..
  have c1 := sorted_l (o := o) (zs := zs)
  obtain ⟨y2, e⟩ := due_for n (some (.lst o (zs.map .int))) (srtI zs) [] none (by rw [hln, List.length_nil]; omega)
  rw [fnd_srt] at e
  simp only [b_due_for, List.map_nil] at e
  have hi : ∀ o (zs : List Int), D.iter (.lst o (zs.map .int)) = some (zs.map .int) := fun _ _ => rfl
  have hmm : ∀ zs : List Int, ((zs.map D.int).map fun x => [x]) = zs.map fun x => [D.int x] := fun zs => by rw [List.map_map]; rfl
  have w1 : ∀ x0 x1 x2, wipeE [x0, x1, x2] [2] = [x0, x1, none] := fun _ _ _ => rfl
  obtain ⟨ρ', e2, rfl⟩ := lc_map (F := F n) (tg := [2]) (el := .idx (.v 1) (.v 2)) (fun z => [D.int z]) (fun z => D.int (rk (dedI (srtI zs)) z)) (fun ρ => ρ = [none, some (.lst true ((dedI (srtI zs)).map .int)), none]) zs _ [] rfl (by rw [List.length_nil]; omega) (by
    rintro z hz ρ rfl
    refine ⟨rfl, rfl, [none, some (.lst true ((dedI (srtI zs)).map .int)), some (.int z)], ?_, rfl⟩
    show kOwn (.idx (.v 1) (.v 2)) (E.go (F n) (.idx (.v 1) (.v 2)) [none, some (.lst true ((dedI (srtI zs)).map .int)), some (.int z)]) = _
    have f1 := fx_ints (dedI (srtI zs)) z (mem_ded _ _ (mem_srt.mpr hz))
    have f2 := flat_ints (dedI (srtI zs))
    have f3 : D.flat (.int z) = true := rfl
    simp only [f1, f2, f3, Hm.s_set, Hm.s_for, Hm.as_c, Hm.as_g, Hm.as_v, Hm.as_mv, Hm.as_u, Hm.as_b, Hm.as_ix, Hm.as_sl, Hm.as_ch, Hm.as_tb, Hm.as_ife, Hm.as_tup, Hm.as_lst, Hm.as_call, Hm.as_idx, Hm.as_lc, Hm.as_dE, Hm.as_sv, Hm.as_lr, Hm.go_ch, List.contains_nil, List.contains_cons, Nat.reduceBEq, List.any_cons, List.any_nil, beq_self_eq_true, Hm.go_c, Hm.go_g, Hm.go_v, Hm.go_mv, Hm.go_sv, Hm.go_u, Hm.go_b, Hm.go_ix, Hm.go_sl, Hm.go_tb, Hm.go_ife, Hm.go_tup, Hm.go_lst, Hm.go_call, Hm.go_idx, Hm.go_lc, Hm.go_dE, Hm.go_lr, Hm.tst_an, Hm.tst_or, Hm.tst_nt, Hm.tst_one, Hm.tst_e, Hm.val_an, Hm.val_or, Hm.val_nt, Hm.val_one, Hm.val_e, Hm.eo_no, Hm.eo_yes, Hm.to_no, Hm.to_yes, Hm.es_nil, Hm.es_cons, Hm.as_nil, Hm.as_io, Hm.as_ln, Hm.it_seq, Hm.it_scr, Hm.it_rng, Hm.it_enum, Hm.s_expr, Hm.s_ret, Hm.s_iff, Hm.s_app, Hm.s_put, Hm.s_pass, Hm.s_brk, Hm.s_cnt, Hm.ss_nil, Hm.ss_cons, Hm.kU_1, Hm.kU_2, Hm.kU_3, Hm.kB2_1, Hm.kB2_2, Hm.kB2_3, Hm.kB1_1, Hm.kB1_2, Hm.kB1_3, Hm.kI2_1, Hm.kI2_2, Hm.kI2_3, Hm.kI1_1, Hm.kI1_2, Hm.kI1_3, Hm.kS3_1, Hm.kS3_2, Hm.kS3_3, Hm.kS2_1, Hm.kS2_2, Hm.kS2_3, Hm.kS1_1, Hm.kS1_2, Hm.kS1_3, Hm.kC3_1, Hm.kC3_2, Hm.kC3_3, Hm.kC2'_1, Hm.kC2'_2, Hm.kC2_1, Hm.kC2_2, Hm.kC2_3, Hm.kC1_1, Hm.kC1_2, Hm.kC1_3, Hm.kTb_1, Hm.kTb_2, Hm.kTb_3, Hm.kIf_1, Hm.kIf_2, Hm.kIf_3, Hm.kIf_4, Hm.kTup_1, Hm.kTup_2, Hm.kTup_3, Hm.kLst_1, Hm.kLst_2, Hm.kLst_3, Hm.kCall_1, Hm.kCall_2, Hm.kCall_3, Hm.kX2_1, Hm.kX2_2, Hm.kX2_3, Hm.kX1_1, Hm.kX1_2, Hm.kX1_3, Hm.kL2_1, Hm.kL1_1, Hm.kL1_2, Hm.kL1_3, Hm.kLr_1, Hm.kLr_2, Hm.kLr_3, Hm.kOwn_1, Hm.kOwn_2, Hm.kOwn_3, Hm.kAn_1, Hm.kAn_2, Hm.kAn_3, Hm.kAn_4, Hm.kOr_1, Hm.kOr_2, Hm.kOr_3, Hm.kOr_4, Hm.kNt_1, Hm.kNt_2, Hm.kNt_3, Hm.kTr'_1, Hm.kTr'_2, Hm.kTr_1, Hm.kTr_2, Hm.kTr_3, Hm.kAnV_1, Hm.kAnV_2, Hm.kAnV_3, Hm.kAnV_4, Hm.kOrV_1, Hm.kOrV_2, Hm.kOrV_3, Hm.kOrV_4, Hm.kVl_1, Hm.kVl_2, Hm.kVl_3, Hm.kEo_1, Hm.kEo_2, Hm.kEo_3, Hm.kEs2_1, Hm.kEs2_2, Hm.kEs2_3, Hm.kEs1_1, Hm.kEs1_2, Hm.kEs1_3, Hm.kAs2_1, Hm.kAs2_2, Hm.kAs2_3, Hm.kAs1_1, Hm.kAs1_2, Hm.kAs1_3, Hm.kW_1, Hm.kW_2, Hm.kSq_1, Hm.kSq_2, Hm.kSq_3, Hm.kScr_1, Hm.kScr_2, Hm.kScr_3, Hm.kRg_1, Hm.kRg_2, Hm.kRg_3, Hm.kEn_1, Hm.kEn_2, Hm.kEn_3, Hm.kSet_1, Hm.kSet_2, Hm.kSet_3, Hm.kExp_1, Hm.kExp_2, Hm.kExp_3, Hm.kRet_1, Hm.kRet_2, Hm.kRet_3, Hm.kIff_1, Hm.kIff_2, Hm.kIff_3, Hm.kIff_4, Hm.kAp2_1, Hm.kAp1_1, Hm.kAp1_2, Hm.kAp1_3, Hm.kAp_1, Hm.kPl_1, Hm.kPl_2, Hm.kPd_1, Hm.kPd_2, Hm.kPk_1, Hm.kPk_2, Hm.kP3_1, Hm.kP3_2, Hm.kP2_1, Hm.kP2_2, Hm.kP2_3, Hm.kP1_1, Hm.kP1_2, Hm.kP1_3, Hm.kFor_1, Hm.kFor_2, Hm.kFor_3, Hm.kSeq_1, Hm.kSeq_2, Hm.kSeq_3, Hm.kSeq_4, Hm.kSeq_5, Hm.kSeq_6, Hm.kOp_s, Hm.kOp_n, Hm.kV_1, Hm.kMv_1, Hm.kSv_1, Hm.cr_1, Hm.cr_2, Hm.add_i, Hm.sub_i, Hm.mul_r, Hm.mul_l, Hm.mod_i, Hm.fdiv_i, Hm.lt_i, Hm.le_i, Hm.gt_i, Hm.ge_i, Hm.eq_i, Hm.eq_b, Hm.eq_s, Hm.ne_i, Hm.ne_b, Hm.min_i, Hm.max_i, Hm.isN_, Hm.notN_, Hm.neg_i, Hm.abs_i, Hm.int_i, Hm.int_b, Hm.len_l, Hm.len_t, Hm.ix_l, Hm.ix_t, Hm.tru_b, Hm.tru_i, Hm.own_i, Hm.ownV_v, Hm.lst_, Hm.tup_, Hm.sz_, Hm.join_s, Hm.join_n, Hm.at_0, Hm.at_1, Hm.at_2, Hm.at_3, Hm.at_4, Hm.at_5, Hm.at_6, Hm.at_7, Hm.at_8, Hm.at_9, Hm.at_10, Hm.at_11, Hm.at_12, Hm.at_13, Hm.at_14, Hm.at_15, Hm.at_16, Hm.at_17, Hm.at_18, Hm.at_19, Hm.at_20, Hm.at_21, Hm.at_22, Hm.at_23, Hm.at_24, Hm.at_25, Hm.ix5_0, Hm.ix5_1, Hm.ix5_2, Hm.ix5_3, Hm.ix5_4, Hm.pow_18, Hm.pow_39, Hm.pow_40, held, D.isC, isCs, E.pu, D.isNon, Cn.d, List.length_cons, List.length_nil, List.getElem?_cons_zero, List.getElem?_cons_succ, List.getElem?_nil, List.set_cons_zero, List.set_cons_succ, List.map_cons, List.map_nil, Option.map_some, Option.map_none, decide_eq_true_eq, Bool.true_and, Bool.and_true, Bool.false_and, Bool.and_false, Bool.not_true, Bool.not_false, Bool.or_true, Bool.true_or, Bool.or_false, Bool.false_or, or_true, true_or, or_false, false_or, and_true, true_and, Bool.false_eq_true, reduceCtorEq, not_true_eq_false, not_false_eq_true, Nat.reduceAdd, Nat.reduceLT, Nat.zero_add, eq_self, decide_true, decide_false, ↓reduceIte, Option.isSome_some, Option.isSome_none, ne_eq, Int.reduceNeg, Int.reducePow, Int.reduceLT, Int.reduceLE, Int.reduceEq, Int.reduceSub, Int.reduceAdd, Int.reduceMul, Nat.reducePow, Nat.reduceLeDiff]
    rfl)
  rw [List.nil_append] at e2
  simp only [b__law_due_ranks, c1, e, e2, hi, hmm, w1, Hm.s_set, Hm.s_for, Hm.as_c, Hm.as_g, Hm.as_v, Hm.as_mv, Hm.as_u, Hm.as_b, Hm.as_ix, Hm.as_sl, Hm.as_ch, Hm.as_tb, Hm.as_ife, Hm.as_tup, Hm.as_lst, Hm.as_call, Hm.as_idx, Hm.as_lc, Hm.as_dE, Hm.as_sv, Hm.as_lr, Hm.go_ch, List.contains_nil, List.contains_cons, Nat.reduceBEq, List.any_cons, List.any_nil, beq_self_eq_true, Hm.go_c, Hm.go_g, Hm.go_v, Hm.go_mv, Hm.go_sv, Hm.go_u, Hm.go_b, Hm.go_ix, Hm.go_sl, Hm.go_tb, Hm.go_ife, Hm.go_tup, Hm.go_lst, Hm.go_call, Hm.go_idx, Hm.go_lc, Hm.go_dE, Hm.go_lr, Hm.tst_an, Hm.tst_or, Hm.tst_nt, Hm.tst_one, Hm.tst_e, Hm.val_an, Hm.val_or, Hm.val_nt, Hm.val_one, Hm.val_e, Hm.eo_no, Hm.eo_yes, Hm.to_no, Hm.to_yes, Hm.es_nil, Hm.es_cons, Hm.as_nil, Hm.as_io, Hm.as_ln, Hm.it_seq, Hm.it_scr, Hm.it_rng, Hm.it_enum, Hm.s_expr, Hm.s_ret, Hm.s_iff, Hm.s_app, Hm.s_put, Hm.s_pass, Hm.s_brk, Hm.s_cnt, Hm.ss_nil, Hm.ss_cons, Hm.kU_1, Hm.kU_2, Hm.kU_3, Hm.kB2_1, Hm.kB2_2, Hm.kB2_3, Hm.kB1_1, Hm.kB1_2, Hm.kB1_3, Hm.kI2_1, Hm.kI2_2, Hm.kI2_3, Hm.kI1_1, Hm.kI1_2, Hm.kI1_3, Hm.kS3_1, Hm.kS3_2, Hm.kS3_3, Hm.kS2_1, Hm.kS2_2, Hm.kS2_3, Hm.kS1_1, Hm.kS1_2, Hm.kS1_3, Hm.kC3_1, Hm.kC3_2, Hm.kC3_3, Hm.kC2'_1, Hm.kC2'_2, Hm.kC2_1, Hm.kC2_2, Hm.kC2_3, Hm.kC1_1, Hm.kC1_2, Hm.kC1_3, Hm.kTb_1, Hm.kTb_2, Hm.kTb_3, Hm.kIf_1, Hm.kIf_2, Hm.kIf_3, Hm.kIf_4, Hm.kTup_1, Hm.kTup_2, Hm.kTup_3, Hm.kLst_1, Hm.kLst_2, Hm.kLst_3, Hm.kCall_1, Hm.kCall_2, Hm.kCall_3, Hm.kX2_1, Hm.kX2_2, Hm.kX2_3, Hm.kX1_1, Hm.kX1_2, Hm.kX1_3, Hm.kL2_1, Hm.kL1_1, Hm.kL1_2, Hm.kL1_3, Hm.kLr_1, Hm.kLr_2, Hm.kLr_3, Hm.kOwn_1, Hm.kOwn_2, Hm.kOwn_3, Hm.kAn_1, Hm.kAn_2, Hm.kAn_3, Hm.kAn_4, Hm.kOr_1, Hm.kOr_2, Hm.kOr_3, Hm.kOr_4, Hm.kNt_1, Hm.kNt_2, Hm.kNt_3, Hm.kTr'_1, Hm.kTr'_2, Hm.kTr_1, Hm.kTr_2, Hm.kTr_3, Hm.kAnV_1, Hm.kAnV_2, Hm.kAnV_3, Hm.kAnV_4, Hm.kOrV_1, Hm.kOrV_2, Hm.kOrV_3, Hm.kOrV_4, Hm.kVl_1, Hm.kVl_2, Hm.kVl_3, Hm.kEo_1, Hm.kEo_2, Hm.kEo_3, Hm.kEs2_1, Hm.kEs2_2, Hm.kEs2_3, Hm.kEs1_1, Hm.kEs1_2, Hm.kEs1_3, Hm.kAs2_1, Hm.kAs2_2, Hm.kAs2_3, Hm.kAs1_1, Hm.kAs1_2, Hm.kAs1_3, Hm.kW_1, Hm.kW_2, Hm.kSq_1, Hm.kSq_2, Hm.kSq_3, Hm.kScr_1, Hm.kScr_2, Hm.kScr_3, Hm.kRg_1, Hm.kRg_2, Hm.kRg_3, Hm.kEn_1, Hm.kEn_2, Hm.kEn_3, Hm.kSet_1, Hm.kSet_2, Hm.kSet_3, Hm.kExp_1, Hm.kExp_2, Hm.kExp_3, Hm.kRet_1, Hm.kRet_2, Hm.kRet_3, Hm.kIff_1, Hm.kIff_2, Hm.kIff_3, Hm.kIff_4, Hm.kAp2_1, Hm.kAp1_1, Hm.kAp1_2, Hm.kAp1_3, Hm.kAp_1, Hm.kPl_1, Hm.kPl_2, Hm.kPd_1, Hm.kPd_2, Hm.kPk_1, Hm.kPk_2, Hm.kP3_1, Hm.kP3_2, Hm.kP2_1, Hm.kP2_2, Hm.kP2_3, Hm.kP1_1, Hm.kP1_2, Hm.kP1_3, Hm.kFor_1, Hm.kFor_2, Hm.kFor_3, Hm.kSeq_1, Hm.kSeq_2, Hm.kSeq_3, Hm.kSeq_4, Hm.kSeq_5, Hm.kSeq_6, Hm.kOp_s, Hm.kOp_n, Hm.kV_1, Hm.kMv_1, Hm.kSv_1, Hm.cr_1, Hm.cr_2, Hm.add_i, Hm.sub_i, Hm.mul_r, Hm.mul_l, Hm.mod_i, Hm.fdiv_i, Hm.lt_i, Hm.le_i, Hm.gt_i, Hm.ge_i, Hm.eq_i, Hm.eq_b, Hm.eq_s, Hm.ne_i, Hm.ne_b, Hm.min_i, Hm.max_i, Hm.isN_, Hm.notN_, Hm.neg_i, Hm.abs_i, Hm.int_i, Hm.int_b, Hm.len_l, Hm.len_t, Hm.ix_l, Hm.ix_t, Hm.tru_b, Hm.tru_i, Hm.own_i, Hm.ownV_v, Hm.lst_, Hm.tup_, Hm.sz_, Hm.join_s, Hm.join_n, Hm.at_0, Hm.at_1, Hm.at_2, Hm.at_3, Hm.at_4, Hm.at_5, Hm.at_6, Hm.at_7, Hm.at_8, Hm.at_9, Hm.at_10, Hm.at_11, Hm.at_12, Hm.at_13, Hm.at_14, Hm.at_15, Hm.at_16, Hm.at_17, Hm.at_18, Hm.at_19, Hm.at_20, Hm.at_21, Hm.at_22, Hm.at_23, Hm.at_24, Hm.at_25, Hm.ix5_0, Hm.ix5_1, Hm.ix5_2, Hm.ix5_3, Hm.ix5_4, Hm.pow_18, Hm.pow_39, Hm.pow_40, held, D.isC, isCs, E.pu, D.isNon, Cn.d, List.length_cons, List.length_nil, List.getElem?_cons_zero, List.getElem?_cons_succ, List.getElem?_nil, List.set_cons_zero, List.set_cons_succ, List.map_cons, List.map_nil, Option.map_some, Option.map_none, decide_eq_true_eq, Bool.true_and, Bool.and_true, Bool.false_and, Bool.and_false, Bool.not_true, Bool.not_false, Bool.or_true, Bool.true_or, Bool.or_false, Bool.false_or, or_true, true_or, or_false, false_or, and_true, true_and, Bool.false_eq_true, reduceCtorEq, not_true_eq_false, not_false_eq_true, Nat.reduceAdd, Nat.reduceLT, Nat.zero_add, eq_self, decide_true, decide_false, ↓reduceIte, Option.isSome_some, Option.isSome_none, ne_eq, Int.reduceNeg, Int.reducePow, Int.reduceLT, Int.reduceLE, Int.reduceEq, Int.reduceSub, Int.reduceAdd, Int.reduceMul, Nat.reducePow, Nat.reduceLeDiff]
  rw [List.map_map]
  rfl
end Lw
end
section
set_option Elab.async false
set_option linter.all false
set_option maxRecDepth 100000
set_option maxHeartbeats 1000000
namespace Lw
open PySem PySem.Spec PyProof.Rows L2 Hm
/-! ### the program's own ranks -/
theorem cl0 (n : Nat) (ds : List D) : F (n + 1) 0 ds = d_ranks_of.run (F n) ds := rfl
theorem srtset_l {o : Bool} {zs : List Int} (h : zs.length + 1 < scanBound) : U1.go .sortedSet (.lst o (zs.map .int)) = some (.lst true ((dedI (srtI zs)).map .int)) := by
  have h2 : intsOf (zs.map D.int) = some zs := by
    clear h
    induction zs with
    | nil => rfl
    | cons z zs ih => rw [List.map_cons, intsOf, ih]; rfl
  show (match intsOf (zs.map D.int) with | some ns => if ns.length + 1 < scanBound then some (D.lst true ((dedI (srtI ns)).map .int)) else none | none => none) = _
  rw [h2]
  exact if_pos h
theorem ded_sub : ∀ (xs : List Int) (a : Int), a ∈ dedI xs → a ∈ xs := by
  intro xs
  induction xs with
  | nil => intro a h; exact h
  | cons x r ih =>
    intro a h
    cases r with
    | nil => exact h
    | cons y r =>
      unfold dedI at h
      by_cases e : x = y
      · rw [if_pos e] at h
        exact List.mem_cons_of_mem _ (ih a h)
      · rw [if_neg e] at h
        rcases List.mem_cons.mp h with rfl | h
        · exact List.mem_cons_self
        · exact List.mem_cons_of_mem _ (ih a h)
theorem ded_nodup : ∀ (xs : List Int), xs.Pairwise (· ≤ ·) → (dedI xs).Nodup := by
  intro xs
  induction xs with
  | nil => intro _; exact List.nodup_nil
  | cons x r ih =>
    intro h
    have h2 := ih (List.pairwise_cons.mp h).2
    cases r with
    | nil => show ([x] : List Int).Nodup; simp
    | cons y r =>
      unfold dedI
      by_cases e : x = y
      · rw [if_pos e]; exact h2
      · rw [if_neg e]
        refine List.nodup_cons.mpr ⟨fun z => ?_, h2⟩
        have h3 := ded_sub _ _ z
        have h4 : x ≤ y := (List.pairwise_cons.mp h).1 y List.mem_cons_self
        rcases List.mem_cons.mp h3 with h3 | h3
        · exact e h3
        · have := (List.pairwise_cons.mp (List.pairwise_cons.mp h).2).1 x h3
          omega
theorem ded_len : ∀ (xs : List Int), (dedI xs).length ≤ xs.length := by
  intro xs
  induction xs with
  | nil => exact Nat.le_refl _
  | cons x r ih =>
    cases r with
    | nil => exact Nat.le_refl _
    | cons y r =>
      unfold dedI
      split
      · exact Nat.le_succ_of_le ih
      · exact Nat.succ_le_succ ih
def b_rank_for : Ss := .cons (.put 1 (.v 3) (.mv 2)) .nil
theorem no_key (pre : List Int) (y : Int) (h : y ∉ pre) : ((pre.map Sum.inl : List Key).findIdx? fun k => decide (k = (Sum.inl y : Key))) = none := by
  rw [List.findIdx?_eq_none_iff]
  intro x hx
  obtain ⟨z, hz, rfl⟩ := List.mem_map.mp hx
  rw [decide_eq_false_iff_not]
  intro e
  exact h (Sum.inl.inj e ▸ hz)
theorem key_int {i : Int} : D.key (.int i) = some (Sum.inl i) := rfl
theorem rank_for (n : Nat) (x0 : Option D) : ∀ (ys pre : List Int) (x2 x3 : Option D), (pre ++ ys).Nodup → pre.length + ys.length < 16777216 →
    ∃ y3, forG (F n) [] [2, 3] b_rank_for ((ys.zip (List.range' pre.length ys.length)).map fun p => [D.int (p.2 : Nat), D.int p.1]) [x0, some (.dK true (pre.map Sum.inl) ((List.range pre.length).map fun (i : Nat) => .int i)), x2, x3] =
      .nx [x0, some (.dK true ((pre ++ ys).map Sum.inl) ((List.range (pre ++ ys).length).map fun (i : Nat) => .int i)), if ys = [] then x2 else none, y3] := by
  intro ys
  induction ys with
  | nil => intro pre x2 x3 _ _; exact ⟨x3, by rw [List.append_nil]; rfl⟩
  | cons y ys ih =>
    intro pre x2 x3 hn hl
    rw [List.length_cons] at hl
    have hy : y ∉ pre := fun z => by
      have := (List.nodup_append.mp hn).2.2 y z y List.mem_cons_self
      exact this rfl
    have e0 : ((y :: ys).zip (List.range' pre.length (y :: ys).length)).map (fun p => [D.int (p.2 : Nat), D.int p.1]) = [D.int (pre.length : Nat), D.int y] :: (ys.zip (List.range' (pre ++ [y]).length ys.length)).map fun p => [D.int (p.2 : Nat), D.int p.1] := by
      rw [List.length_cons, List.range'_succ, List.zip_cons_cons, List.map_cons, List.length_append, List.length_cons, List.length_nil]
    rw [e0, forG_cons rfl rfl]
    show ∃ y3, kFo (F n) [] [2, 3] b_rank_for _ (Ss.go (F n) [] b_rank_for [x0, some (.dK true (pre.map Sum.inl) ((List.range pre.length).map fun (i : Nat) => .int i)), some (.int (pre.length : Nat)), some (.int y)]) = _
    have f1 := no_key pre y hy
    have f2 : ((pre.map Sum.inl : List Key).length < 16777216) = True := eq_true (by rw [List.length_map]; omega)
    have f3 : ((pre.map Sum.inl : List Key).length = ((List.range pre.length).map fun (i : Nat) => D.int i).length) = True := eq_true (by rw [List.length_map, List.length_map, List.length_range])
    have e : Ss.go (F n) [] b_rank_for [x0, some (.dK true (pre.map Sum.inl) ((List.range pre.length).map fun (i : Nat) => .int i)), some (.int (pre.length : Nat)), some (.int y)] = .nx [x0, some (.dK true ((pre ++ [y]).map Sum.inl) ((List.range (pre ++ [y]).length).map fun (i : Nat) => .int i)), none, some (.int y)] := by
      simp only [b_rank_for, key_int, f1, f2, f3, Hm.s_set, Hm.s_for, Hm.as_c, Hm.as_g, Hm.as_v, Hm.as_mv, Hm.as_u, Hm.as_b, Hm.as_ix, Hm.as_sl, Hm.as_ch, Hm.as_tb, Hm.as_ife, Hm.as_tup, Hm.as_lst, Hm.as_call, Hm.as_idx, Hm.as_lc, Hm.as_dE, Hm.as_sv, Hm.as_lr, Hm.go_ch, List.contains_nil, List.contains_cons, Nat.reduceBEq, List.any_cons, List.any_nil, beq_self_eq_true, Hm.go_c, Hm.go_g, Hm.go_v, Hm.go_mv, Hm.go_sv, Hm.go_u, Hm.go_b, Hm.go_ix, Hm.go_sl, Hm.go_tb, Hm.go_ife, Hm.go_tup, Hm.go_lst, Hm.go_call, Hm.go_idx, Hm.go_lc, Hm.go_dE, Hm.go_lr, Hm.tst_an, Hm.tst_or, Hm.tst_nt, Hm.tst_one, Hm.tst_e, Hm.val_an, Hm.val_or, Hm.val_nt, Hm.val_one, Hm.val_e, Hm.eo_no, Hm.eo_yes, Hm.to_no, Hm.to_yes, Hm.es_nil, Hm.es_cons, Hm.as_nil, Hm.as_io, Hm.as_ln, Hm.it_seq, Hm.it_scr, Hm.it_rng, Hm.it_enum, Hm.s_expr, Hm.s_ret, Hm.s_iff, Hm.s_app, Hm.s_put, Hm.s_pass, Hm.s_brk, Hm.s_cnt, Hm.ss_nil, Hm.ss_cons, Hm.kU_1, Hm.kU_2, Hm.kU_3, Hm.kB2_1, Hm.kB2_2, Hm.kB2_3, Hm.kB1_1, Hm.kB1_2, Hm.kB1_3, Hm.kI2_1, Hm.kI2_2, Hm.kI2_3, Hm.kI1_1, Hm.kI1_2, Hm.kI1_3, Hm.kS3_1, Hm.kS3_2, Hm.kS3_3, Hm.kS2_1, Hm.kS2_2, Hm.kS2_3, Hm.kS1_1, Hm.kS1_2, Hm.kS1_3, Hm.kC3_1, Hm.kC3_2, Hm.kC3_3, Hm.kC2'_1, Hm.kC2'_2, Hm.kC2_1, Hm.kC2_2, Hm.kC2_3, Hm.kC1_1, Hm.kC1_2, Hm.kC1_3, Hm.kTb_1, Hm.kTb_2, Hm.kTb_3, Hm.kIf_1, Hm.kIf_2, Hm.kIf_3, Hm.kIf_4, Hm.kTup_1, Hm.kTup_2, Hm.kTup_3, Hm.kLst_1, Hm.kLst_2, Hm.kLst_3, Hm.kCall_1, Hm.kCall_2, Hm.kCall_3, Hm.kX2_1, Hm.kX2_2, Hm.kX2_3, Hm.kX1_1, Hm.kX1_2, Hm.kX1_3, Hm.kL2_1, Hm.kL1_1, Hm.kL1_2, Hm.kL1_3, Hm.kLr_1, Hm.kLr_2, Hm.kLr_3, Hm.kOwn_1, Hm.kOwn_2, Hm.kOwn_3, Hm.kAn_1, Hm.kAn_2, Hm.kAn_3, Hm.kAn_4, Hm.kOr_1, Hm.kOr_2, Hm.kOr_3, Hm.kOr_4, Hm.kNt_1, Hm.kNt_2, Hm.kNt_3, Hm.kTr'_1, Hm.kTr'_2, Hm.kTr_1, Hm.kTr_2, Hm.kTr_3, Hm.kAnV_1, Hm.kAnV_2, Hm.kAnV_3, Hm.kAnV_4, Hm.kOrV_1, Hm.kOrV_2, Hm.kOrV_3, Hm.kOrV_4, Hm.kVl_1, Hm.kVl_2, Hm.kVl_3, Hm.kEo_1, Hm.kEo_2, Hm.kEo_3, Hm.kEs2_1, Hm.kEs2_2, Hm.kEs2_3, Hm.kEs1_1, Hm.kEs1_2, Hm.kEs1_3, Hm.kAs2_1, Hm.kAs2_2, Hm.kAs2_3, Hm.kAs1_1, Hm.kAs1_2, Hm.kAs1_3, Hm.kW_1, Hm.kW_2, Hm.kSq_1, Hm.kSq_2, Hm.kSq_3, Hm.kScr_1, Hm.kScr_2, Hm.kScr_3, Hm.kRg_1, Hm.kRg_2, Hm.kRg_3, Hm.kEn_1, Hm.kEn_2, Hm.kEn_3, Hm.kSet_1, Hm.kSet_2, Hm.kSet_3, Hm.kExp_1, Hm.kExp_2, Hm.kExp_3, Hm.kRet_1, Hm.kRet_2, Hm.kRet_3, Hm.kIff_1, Hm.kIff_2, Hm.kIff_3, Hm.kIff_4, Hm.kAp2_1, Hm.kAp1_1, Hm.kAp1_2, Hm.kAp1_3, Hm.kAp_1, Hm.kPl_1, Hm.kPl_2, Hm.kPd_1, Hm.kPd_2, Hm.kPk_1, Hm.kPk_2, Hm.kP3_1, Hm.kP3_2, Hm.kP2_1, Hm.kP2_2, Hm.kP2_3, Hm.kP1_1, Hm.kP1_2, Hm.kP1_3, Hm.kFor_1, Hm.kFor_2, Hm.kFor_3, Hm.kSeq_1, Hm.kSeq_2, Hm.kSeq_3, Hm.kSeq_4, Hm.kSeq_5, Hm.kSeq_6, Hm.kOp_s, Hm.kOp_n, Hm.kV_1, Hm.kMv_1, Hm.kSv_1, Hm.cr_1, Hm.cr_2, Hm.add_i, Hm.sub_i, Hm.mul_r, Hm.mul_l, Hm.mod_i, Hm.fdiv_i, Hm.lt_i, Hm.le_i, Hm.gt_i, Hm.ge_i, Hm.eq_i, Hm.eq_b, Hm.eq_s, Hm.ne_i, Hm.ne_b, Hm.min_i, Hm.max_i, Hm.isN_, Hm.notN_, Hm.neg_i, Hm.abs_i, Hm.int_i, Hm.int_b, Hm.len_l, Hm.len_t, Hm.ix_l, Hm.ix_t, Hm.tru_b, Hm.tru_i, Hm.own_i, Hm.ownV_v, Hm.lst_, Hm.tup_, Hm.sz_, Hm.join_s, Hm.join_n, Hm.at_0, Hm.at_1, Hm.at_2, Hm.at_3, Hm.at_4, Hm.at_5, Hm.at_6, Hm.at_7, Hm.at_8, Hm.at_9, Hm.at_10, Hm.at_11, Hm.at_12, Hm.at_13, Hm.at_14, Hm.at_15, Hm.at_16, Hm.at_17, Hm.at_18, Hm.at_19, Hm.at_20, Hm.at_21, Hm.at_22, Hm.at_23, Hm.at_24, Hm.at_25, Hm.ix5_0, Hm.ix5_1, Hm.ix5_2, Hm.ix5_3, Hm.ix5_4, Hm.pow_18, Hm.pow_39, Hm.pow_40, held, D.isC, isCs, E.pu, D.isNon, Cn.d, List.length_cons, List.length_nil, List.getElem?_cons_zero, List.getElem?_cons_succ, List.getElem?_nil, List.set_cons_zero, List.set_cons_succ, List.map_cons, List.map_nil, Option.map_some, Option.map_none, decide_eq_true_eq, Bool.true_and, Bool.and_true, Bool.false_and, Bool.and_false, Bool.not_true, Bool.not_false, Bool.or_true, Bool.true_or, Bool.or_false, Bool.false_or, or_true, true_or, or_false, false_or, and_true, true_and, Bool.false_eq_true, reduceCtorEq, not_true_eq_false, not_false_eq_true, Nat.reduceAdd, Nat.reduceLT, Nat.zero_add, eq_self, decide_true, decide_false, ↓reduceIte, Option.isSome_some, Option.isSome_none, ne_eq, Int.reduceNeg, Int.reducePow, Int.reduceLT, Int.reduceLE, Int.reduceEq, Int.reduceSub, Int.reduceAdd, Int.reduceMul, Nat.reducePow, Nat.reduceLeDiff]
      rw [List.map_append, List.length_append, List.length_cons, List.length_nil, List.range_succ, List.map_append]
      rfl
    rw [e]
    obtain ⟨y3, e2⟩ := ih (pre ++ [y]) none (some (.int y)) (by rw [List.append_assoc]; exact hn) (by rw [List.length_append, List.length_cons, List.length_nil]; omega)
    refine ⟨y3, e2.trans ?_⟩
    rw [List.append_assoc, List.singleton_append, if_neg (List.cons_ne_nil _ _)]
    split <;> rfl
theorem look_rk : ∀ (ds : List Int) (k : Nat) (z : Int), z ∈ ds → lookK (ds.map Sum.inl) ((List.range' k ds.length).map fun (i : Nat) => .int i) (Sum.inl z) = some (.int ((k + (ds.findIdx? fun d => d == z).getD 0 : Nat))) := by
  intro ds
  induction ds with
  | nil => intro k z h; exact nomatch h
  | cons d ds ih =>
    intro k z h
    rw [List.length_cons, List.range'_succ, List.map_cons, List.map_cons, lookK, List.findIdx?_cons]
    by_cases e : d = z
    · subst e
      rw [if_pos rfl]
      simp
    · rw [if_neg fun q => e (Sum.inl.inj q), show (d == z) = false from beq_eq_false_iff_ne.mpr e]
      have h2 : z ∈ ds := (List.mem_cons.mp h).resolve_left fun q => e q.symm
      rw [ih (k + 1) z h2]
      cases e2 : ds.findIdx? fun d => d == z with
      | none =>
        rw [List.findIdx?_eq_none_iff] at e2
        have := e2 z h2
        simp at this
      | some j => simp; omega
theorem ix_dK {o : Bool} {ks : List Key} {vs : List D} {i : Int} : ixD (.dK o ks vs) (.int i) = lookK ks vs (Sum.inl i) := rfl
theorem ranks_of (n : Nat) (o : Bool) (zs : List Int) (hz : zs.length < 4000) : F (n + 1) 0 [.lst o (zs.map .int)] = .ok (.lst true ((zs.map (rk (dedI (srtI zs)))).map .int)) [none] := by
  rw [cl0, Df.run_eq _ _ _ rfl]
  show (Ss.go (F n) [] b_ranks_of [some (.lst o (zs.map .int)), none, none, none]).toCR d_ranks_of = .ok (.lst true ((zs.map (rk (dedI (srtI zs)))).map .int)) [none]
  have hln : (srtI zs).length = zs.length := List.length_mergeSort ..
  have hdl := ded_len (srtI zs)
  have hnd := ded_nodup _ (srt_pw zs)
  have hmem : ∀ z ∈ zs, z ∈ dedI (srtI zs) := fun z hz => mem_ded _ _ (mem_srt.mpr hz)
  generalize hds : dedI (srtI zs) = ds at *
  have c1 := srtset_l (o := o) (zs := zs) (by show zs.length + 1 < 4096; omega)
  rw [hds] at c1
  obtain ⟨y3, e⟩ := rank_for n (some (.lst o (zs.map .int))) ds [] none none hnd (by rw [List.length_nil]; omega)
  simp only [b_rank_for, List.map_nil, List.length_nil, List.range_zero, List.nil_append, ite_self] at e
  have e0 : (((ds.map D.int).zip (List.range (ds.map D.int).length)).map fun (p : D × Nat) => [D.int (p.2 : Nat), p.1]) = (ds.zip (List.range' 0 ds.length)).map fun p => [D.int (p.2 : Nat), D.int p.1] := by
    rw [List.length_map, List.range_eq_range', List.zip_map_left, List.map_map]
    rfl
  have hc := cells_isC ds
  have hi : ∀ o (zs : List Int), D.iter (.lst o (zs.map .int)) = some (zs.map .int) := fun _ _ => rfl
  have hmm : ∀ zs : List Int, ((zs.map D.int).map fun x => [x]) = zs.map fun x => [D.int x] := fun zs => by rw [List.map_map]; rfl
  have w1 : ∀ x0 x1 x2 x3, wipeE [x0, x1, x2, x3] [3] = [x0, x1, x2, none] := fun _ _ _ _ => rfl
  obtain ⟨ρ', e2, rfl⟩ := lc_map (F := F n) (tg := [3]) (el := .ix (.v 1) (.v 3)) (fun z => [D.int z]) (fun z => D.int (rk ds z)) (fun ρ => ρ = [none, some (.dK true (ds.map Sum.inl) ((List.range ds.length).map fun (i : Nat) => .int i)), none, none]) zs _ [] rfl (by rw [List.length_nil]; omega) (by
    rintro z hz ρ rfl
    refine ⟨rfl, rfl, [none, some (.dK true (ds.map Sum.inl) ((List.range ds.length).map fun (i : Nat) => .int i)), none, some (.int z)], ?_, rfl⟩
    show kOwn (.ix (.v 1) (.v 3)) (E.go (F n) (.ix (.v 1) (.v 3)) [none, some (.dK true (ds.map Sum.inl) ((List.range ds.length).map fun (i : Nat) => .int i)), none, some (.int z)]) = _
    have f1 := look_rk ds 0 z (hmem z hz)
    rw [← List.range_eq_range'] at f1
    simp only [ix_dK, f1, Hm.s_set, Hm.s_for, Hm.as_c, Hm.as_g, Hm.as_v, Hm.as_mv, Hm.as_u, Hm.as_b, Hm.as_ix, Hm.as_sl, Hm.as_ch, Hm.as_tb, Hm.as_ife, Hm.as_tup, Hm.as_lst, Hm.as_call, Hm.as_idx, Hm.as_lc, Hm.as_dE, Hm.as_sv, Hm.as_lr, Hm.go_ch, List.contains_nil, List.contains_cons, Nat.reduceBEq, List.any_cons, List.any_nil, beq_self_eq_true, Hm.go_c, Hm.go_g, Hm.go_v, Hm.go_mv, Hm.go_sv, Hm.go_u, Hm.go_b, Hm.go_ix, Hm.go_sl, Hm.go_tb, Hm.go_ife, Hm.go_tup, Hm.go_lst, Hm.go_call, Hm.go_idx, Hm.go_lc, Hm.go_dE, Hm.go_lr, Hm.tst_an, Hm.tst_or, Hm.tst_nt, Hm.tst_one, Hm.tst_e, Hm.val_an, Hm.val_or, Hm.val_nt, Hm.val_one, Hm.val_e, Hm.eo_no, Hm.eo_yes, Hm.to_no, Hm.to_yes, Hm.es_nil, Hm.es_cons, Hm.as_nil, Hm.as_io, Hm.as_ln, Hm.it_seq, Hm.it_scr, Hm.it_rng, Hm.it_enum, Hm.s_expr, Hm.s_ret, Hm.s_iff, Hm.s_app, Hm.s_put, Hm.s_pass, Hm.s_brk, Hm.s_cnt, Hm.ss_nil, Hm.ss_cons, Hm.kU_1, Hm.kU_2, Hm.kU_3, Hm.kB2_1, Hm.kB2_2, Hm.kB2_3, Hm.kB1_1, Hm.kB1_2, Hm.kB1_3, Hm.kI2_1, Hm.kI2_2, Hm.kI2_3, Hm.kI1_1, Hm.kI1_2, Hm.kI1_3, Hm.kS3_1, Hm.kS3_2, Hm.kS3_3, Hm.kS2_1, Hm.kS2_2, Hm.kS2_3, Hm.kS1_1, Hm.kS1_2, Hm.kS1_3, Hm.kC3_1, Hm.kC3_2, Hm.kC3_3, Hm.kC2'_1, Hm.kC2'_2, Hm.kC2_1, Hm.kC2_2, Hm.kC2_3, Hm.kC1_1, Hm.kC1_2, Hm.kC1_3, Hm.kTb_1, Hm.kTb_2, Hm.kTb_3, Hm.kIf_1, Hm.kIf_2, Hm.kIf_3, Hm.kIf_4, Hm.kTup_1, Hm.kTup_2, Hm.kTup_3, Hm.kLst_1, Hm.kLst_2, Hm.kLst_3, Hm.kCall_1, Hm.kCall_2, Hm.kCall_3, Hm.kX2_1, Hm.kX2_2, Hm.kX2_3, Hm.kX1_1, Hm.kX1_2, Hm.kX1_3, Hm.kL2_1, Hm.kL1_1, Hm.kL1_2, Hm.kL1_3, Hm.kLr_1, Hm.kLr_2, Hm.kLr_3, Hm.kOwn_1, Hm.kOwn_2, Hm.kOwn_3, Hm.kAn_1, Hm.kAn_2, Hm.kAn_3, Hm.kAn_4, Hm.kOr_1, Hm.kOr_2, Hm.kOr_3, Hm.kOr_4, Hm.kNt_1, Hm.kNt_2, Hm.kNt_3, Hm.kTr'_1, Hm.kTr'_2, Hm.kTr_1, Hm.kTr_2, Hm.kTr_3, Hm.kAnV_1, Hm.kAnV_2, Hm.kAnV_3, Hm.kAnV_4, Hm.kOrV_1, Hm.kOrV_2, Hm.kOrV_3, Hm.kOrV_4, Hm.kVl_1, Hm.kVl_2, Hm.kVl_3, Hm.kEo_1, Hm.kEo_2, Hm.kEo_3, Hm.kEs2_1, Hm.kEs2_2, Hm.kEs2_3, Hm.kEs1_1, Hm.kEs1_2, Hm.kEs1_3, Hm.kAs2_1, Hm.kAs2_2, Hm.kAs2_3, Hm.kAs1_1, Hm.kAs1_2, Hm.kAs1_3, Hm.kW_1, Hm.kW_2, Hm.kSq_1, Hm.kSq_2, Hm.kSq_3, Hm.kScr_1, Hm.kScr_2, Hm.kScr_3, Hm.kRg_1, Hm.kRg_2, Hm.kRg_3, Hm.kEn_1, Hm.kEn_2, Hm.kEn_3, Hm.kSet_1, Hm.kSet_2, Hm.kSet_3, Hm.kExp_1, Hm.kExp_2, Hm.kExp_3, Hm.kRet_1, Hm.kRet_2, Hm.kRet_3, Hm.kIff_1, Hm.kIff_2, Hm.kIff_3, Hm.kIff_4, Hm.kAp2_1, Hm.kAp1_1, Hm.kAp1_2, Hm.kAp1_3, Hm.kAp_1, Hm.kPl_1, Hm.kPl_2, Hm.kPd_1, Hm.kPd_2, Hm.kPk_1, Hm.kPk_2, Hm.kP3_1, Hm.kP3_2, Hm.kP2_1, Hm.kP2_2, Hm.kP2_3, Hm.kP1_1, Hm.kP1_2, Hm.kP1_3, Hm.kFor_1, Hm.kFor_2, Hm.kFor_3, Hm.kSeq_1, Hm.kSeq_2, Hm.kSeq_3, Hm.kSeq_4, Hm.kSeq_5, Hm.kSeq_6, Hm.kOp_s, Hm.kOp_n, Hm.kV_1, Hm.kMv_1, Hm.kSv_1, Hm.cr_1, Hm.cr_2, Hm.add_i, Hm.sub_i, Hm.mul_r, Hm.mul_l, Hm.mod_i, Hm.fdiv_i, Hm.lt_i, Hm.le_i, Hm.gt_i, Hm.ge_i, Hm.eq_i, Hm.eq_b, Hm.eq_s, Hm.ne_i, Hm.ne_b, Hm.min_i, Hm.max_i, Hm.isN_, Hm.notN_, Hm.neg_i, Hm.abs_i, Hm.int_i, Hm.int_b, Hm.len_l, Hm.len_t, Hm.ix_l, Hm.ix_t, Hm.tru_b, Hm.tru_i, Hm.own_i, Hm.ownV_v, Hm.lst_, Hm.tup_, Hm.sz_, Hm.join_s, Hm.join_n, Hm.at_0, Hm.at_1, Hm.at_2, Hm.at_3, Hm.at_4, Hm.at_5, Hm.at_6, Hm.at_7, Hm.at_8, Hm.at_9, Hm.at_10, Hm.at_11, Hm.at_12, Hm.at_13, Hm.at_14, Hm.at_15, Hm.at_16, Hm.at_17, Hm.at_18, Hm.at_19, Hm.at_20, Hm.at_21, Hm.at_22, Hm.at_23, Hm.at_24, Hm.at_25, Hm.ix5_0, Hm.ix5_1, Hm.ix5_2, Hm.ix5_3, Hm.ix5_4, Hm.pow_18, Hm.pow_39, Hm.pow_40, held, D.isC, isCs, E.pu, D.isNon, Cn.d, List.length_cons, List.length_nil, List.getElem?_cons_zero, List.getElem?_cons_succ, List.getElem?_nil, List.set_cons_zero, List.set_cons_succ, List.map_cons, List.map_nil, Option.map_some, Option.map_none, decide_eq_true_eq, Bool.true_and, Bool.and_true, Bool.false_and, Bool.and_false, Bool.not_true, Bool.not_false, Bool.or_true, Bool.true_or, Bool.or_false, Bool.false_or, or_true, true_or, or_false, false_or, and_true, true_and, Bool.false_eq_true, reduceCtorEq, not_true_eq_false, not_false_eq_true, Nat.reduceAdd, Nat.reduceLT, Nat.zero_add, eq_self, decide_true, decide_false, ↓reduceIte, Option.isSome_some, Option.isSome_none, ne_eq, Int.reduceNeg, Int.reducePow, Int.reduceLT, Int.reduceLE, Int.reduceEq, Int.reduceSub, Int.reduceAdd, Int.reduceMul, Nat.reducePow, Nat.reduceLeDiff]
    rfl)
  rw [List.nil_append] at e2
  simp only [b_ranks_of, c1, hc, e0, e, e2, hi, hmm, w1, Hm.s_set, Hm.s_for, Hm.as_c, Hm.as_g, Hm.as_v, Hm.as_mv, Hm.as_u, Hm.as_b, Hm.as_ix, Hm.as_sl, Hm.as_ch, Hm.as_tb, Hm.as_ife, Hm.as_tup, Hm.as_lst, Hm.as_call, Hm.as_idx, Hm.as_lc, Hm.as_dE, Hm.as_sv, Hm.as_lr, Hm.go_ch, List.contains_nil, List.contains_cons, Nat.reduceBEq, List.any_cons, List.any_nil, beq_self_eq_true, Hm.go_c, Hm.go_g, Hm.go_v, Hm.go_mv, Hm.go_sv, Hm.go_u, Hm.go_b, Hm.go_ix, Hm.go_sl, Hm.go_tb, Hm.go_ife, Hm.go_tup, Hm.go_lst, Hm.go_call, Hm.go_idx, Hm.go_lc, Hm.go_dE, Hm.go_lr, Hm.tst_an, Hm.tst_or, Hm.tst_nt, Hm.tst_one, Hm.tst_e, Hm.val_an, Hm.val_or, Hm.val_nt, Hm.val_one, Hm.val_e, Hm.eo_no, Hm.eo_yes, Hm.to_no, Hm.to_yes, Hm.es_nil, Hm.es_cons, Hm.as_nil, Hm.as_io, Hm.as_ln, Hm.it_seq, Hm.it_scr, Hm.it_rng, Hm.it_enum, Hm.s_expr, Hm.s_ret, Hm.s_iff, Hm.s_app, Hm.s_put, Hm.s_pass, Hm.s_brk, Hm.s_cnt, Hm.ss_nil, Hm.ss_cons, Hm.kU_1, Hm.kU_2, Hm.kU_3, Hm.kB2_1, Hm.kB2_2, Hm.kB2_3, Hm.kB1_1, Hm.kB1_2, Hm.kB1_3, Hm.kI2_1, Hm.kI2_2, Hm.kI2_3, Hm.kI1_1, Hm.kI1_2, Hm.kI1_3, Hm.kS3_1, Hm.kS3_2, Hm.kS3_3, Hm.kS2_1, Hm.kS2_2, Hm.kS2_3, Hm.kS1_1, Hm.kS1_2, Hm.kS1_3, Hm.kC3_1, Hm.kC3_2, Hm.kC3_3, Hm.kC2'_1, Hm.kC2'_2, Hm.kC2_1, Hm.kC2_2, Hm.kC2_3, Hm.kC1_1, Hm.kC1_2, Hm.kC1_3, Hm.kTb_1, Hm.kTb_2, Hm.kTb_3, Hm.kIf_1, Hm.kIf_2, Hm.kIf_3, Hm.kIf_4, Hm.kTup_1, Hm.kTup_2, Hm.kTup_3, Hm.kLst_1, Hm.kLst_2, Hm.kLst_3, Hm.kCall_1, Hm.kCall_2, Hm.kCall_3, Hm.kX2_1, Hm.kX2_2, Hm.kX2_3, Hm.kX1_1, Hm.kX1_2, Hm.kX1_3, Hm.kL2_1, Hm.kL1_1, Hm.kL1_2, Hm.kL1_3, Hm.kLr_1, Hm.kLr_2, Hm.kLr_3, Hm.kOwn_1, Hm.kOwn_2, Hm.kOwn_3, Hm.kAn_1, Hm.kAn_2, Hm.kAn_3, Hm.kAn_4, Hm.kOr_1, Hm.kOr_2, Hm.kOr_3, Hm.kOr_4, Hm.kNt_1, Hm.kNt_2, Hm.kNt_3, Hm.kTr'_1, Hm.kTr'_2, Hm.kTr_1, Hm.kTr_2, Hm.kTr_3, Hm.kAnV_1, Hm.kAnV_2, Hm.kAnV_3, Hm.kAnV_4, Hm.kOrV_1, Hm.kOrV_2, Hm.kOrV_3, Hm.kOrV_4, Hm.kVl_1, Hm.kVl_2, Hm.kVl_3, Hm.kEo_1, Hm.kEo_2, Hm.kEo_3, Hm.kEs2_1, Hm.kEs2_2, Hm.kEs2_3, Hm.kEs1_1, Hm.kEs1_2, Hm.kEs1_3, Hm.kAs2_1, Hm.kAs2_2, Hm.kAs2_3, Hm.kAs1_1, Hm.kAs1_2, Hm.kAs1_3, Hm.kW_1, Hm.kW_2, Hm.kSq_1, Hm.kSq_2, Hm.kSq_3, Hm.kScr_1, Hm.kScr_2, Hm.kScr_3, Hm.kRg_1, Hm.kRg_2, Hm.kRg_3, Hm.kEn_1, Hm.kEn_2, Hm.kEn_3, Hm.kSet_1, Hm.kSet_2, Hm.kSet_3, Hm.kExp_1, Hm.kExp_2, Hm.kExp_3, Hm.kRet_1, Hm.kRet_2, Hm.kRet_3, Hm.kIff_1, Hm.kIff_2, Hm.kIff_3, Hm.kIff_4, Hm.kAp2_1, Hm.kAp1_1, Hm.kAp1_2, Hm.kAp1_3, Hm.kAp_1, Hm.kPl_1, Hm.kPl_2, Hm.kPd_1, Hm.kPd_2, Hm.kPk_1, Hm.kPk_2, Hm.kP3_1, Hm.kP3_2, Hm.kP2_1, Hm.kP2_2, Hm.kP2_3, Hm.kP1_1, Hm.kP1_2, Hm.kP1_3, Hm.kFor_1, Hm.kFor_2, Hm.kFor_3, Hm.kSeq_1, Hm.kSeq_2, Hm.kSeq_3, Hm.kSeq_4, Hm.kSeq_5, Hm.kSeq_6, Hm.kOp_s, Hm.kOp_n, Hm.kV_1, Hm.kMv_1, Hm.kSv_1, Hm.cr_1, Hm.cr_2, Hm.add_i, Hm.sub_i, Hm.mul_r, Hm.mul_l, Hm.mod_i, Hm.fdiv_i, Hm.lt_i, Hm.le_i, Hm.gt_i, Hm.ge_i, Hm.eq_i, Hm.eq_b, Hm.eq_s, Hm.ne_i, Hm.ne_b, Hm.min_i, Hm.max_i, Hm.isN_, Hm.notN_, Hm.neg_i, Hm.abs_i, Hm.int_i, Hm.int_b, Hm.len_l, Hm.len_t, Hm.ix_l, Hm.ix_t, Hm.tru_b, Hm.tru_i, Hm.own_i, Hm.ownV_v, Hm.lst_, Hm.tup_, Hm.sz_, Hm.join_s, Hm.join_n, Hm.at_0, Hm.at_1, Hm.at_2, Hm.at_3, Hm.at_4, Hm.at_5, Hm.at_6, Hm.at_7, Hm.at_8, Hm.at_9, Hm.at_10, Hm.at_11, Hm.at_12, Hm.at_13, Hm.at_14, Hm.at_15, Hm.at_16, Hm.at_17, Hm.at_18, Hm.at_19, Hm.at_20, Hm.at_21, Hm.at_22, Hm.at_23, Hm.at_24, Hm.at_25, Hm.ix5_0, Hm.ix5_1, Hm.ix5_2, Hm.ix5_3, Hm.ix5_4, Hm.pow_18, Hm.pow_39, Hm.pow_40, held, D.isC, isCs, E.pu, D.isNon, Cn.d, List.length_cons, List.length_nil, List.getElem?_cons_zero, List.getElem?_cons_succ, List.getElem?_nil, List.set_cons_zero, List.set_cons_succ, List.map_cons, List.map_nil, Option.map_some, Option.map_none, decide_eq_true_eq, Bool.true_and, Bool.and_true, Bool.false_and, Bool.and_false, Bool.not_true, Bool.not_false, Bool.or_true, Bool.true_or, Bool.or_false, Bool.false_or, or_true, true_or, or_false, false_or, and_true, true_and, Bool.false_eq_true, reduceCtorEq, not_true_eq_false, not_false_eq_true, Nat.reduceAdd, Nat.reduceLT, Nat.zero_add, eq_self, decide_true, decide_false, ↓reduceIte, Option.isSome_some, Option.isSome_none, ne_eq, Int.reduceNeg, Int.reducePow, Int.reduceLT, Int.reduceLE, Int.reduceEq, Int.reduceSub, Int.reduceAdd, Int.reduceMul, Nat.reducePow, Nat.reduceLeDiff]
  rw [List.map_map]
  rfl
end Lw
end
section
set_option Elab.async false
set_option linter.all false
set_option maxRecDepth 100000
set_option maxHeartbeats 1000000
namespace Lw
open PySem PySem.Spec PyProof.Rows L2 Hm
theorem call_number (n : Nat) (s : D) (h : St s) (lo hi : Int) (h1 : lo ≤ hi) (h2 : hi - lo + 1 < 1073741824) : ∃ (t : Int) (s' : D), (∀ r : Ev, callR (F (n + 3)) 5 [.io 0, .d (.int lo), .d (.int hi)] (some s :: r) = .ok (.int t, false) (some s' :: r)) ∧ St s' ∧ lo ≤ t ∧ t ≤ hi := by
  obtain ⟨t, s', e, h'⟩ := number n s h lo hi h1 h2
  refine ⟨t, s', fun r => ?_, h'⟩
  rw [callR_ok (as := [.io 0, .d (.int lo), .d (.int hi)]) (ds := [s, .int lo, .int hi]) rfl (by show ([0] : List Nat).Nodup; decide) e rfl]
  rfl
theorem call_wide (n : Nat) (s : D) (h : St s) : ∃ (t : Int) (s' : D), (∀ r : Ev, callR (F (n + 4)) 6 [.io 0] (some s :: r) = .ok (.int t, false) (some s' :: r)) ∧ St s' := by
  obtain ⟨t, s', e, h'⟩ := wide n s h
  refine ⟨t, s', fun r => ?_, h'⟩
  rw [callR_ok (as := [.io 0]) (ds := [s]) rfl (by show ([0] : List Nat).Nodup; decide) e rfl]
  rfl
theorem call_heights (n : Nat) (s : D) (h : St s) (m : Int) (h0 : 0 ≤ m) (hm : m < 1000) : ∃ (zs : List Int) (s' : D), (∀ r : Ev, callR (F (n + 5)) 10 [.io 0, .d (.int m)] (some s :: r) = .ok (.lst true (zs.map .int), false) (some s' :: r)) ∧ St s' ∧ (zs.length : Int) = m := by
  obtain ⟨zs, s', e, h'⟩ := heights n s h m h0 hm
  refine ⟨zs, s', fun r => ?_, h'⟩
  rw [callR_ok (as := [.io 0, .d (.int m)]) (ds := [s, .int m]) rfl (by show ([0] : List Nat).Nodup; decide) e rfl]
  show R.ok _ (backF _ _ _ _ _) = _
  rfl
theorem cl11 (n : Nat) (ds : List D) : F (n + 1) 11 ds = d__law_numbers.run (F n) ds := rfl
theorem num_1 (n : Nat) (s : D) (h : St s) : ∃ (s' : D) (m : Int), Ss.go (F (n + 5)) [0] (b__law_numbers.dr 0) [some s, none, none, none, none, none, none] = Ss.go (F (n + 5)) [0] (b__law_numbers.dr 2) [some s', some (.int m), none, none, none, none, none] ∧ St s' ∧ 0 ≤ m ∧ m ≤ 80 := by
  obtain ⟨t, s1, c1, h1, t0, t1⟩ := call_number (n + 2) s h 0 12 (by decide) (by decide)
  have e0 : S.go (F (n + 5)) [0] (b__law_numbers.nth 0) [some s, none, none, none, none, none, none] = .nx [some s1, some (.int t), none, none, none, none, none] := by
    simp only [b__law_numbers, Ss.nth, c1, Hm.s_set, Hm.s_for, Hm.as_c, Hm.as_g, Hm.as_v, Hm.as_mv, Hm.as_u, Hm.as_b, Hm.as_ix, Hm.as_sl, Hm.as_ch, Hm.as_tb, Hm.as_ife, Hm.as_tup, Hm.as_lst, Hm.as_call, Hm.as_idx, Hm.as_lc, Hm.as_dE, Hm.as_sv, Hm.as_lr, Hm.go_ch, List.contains_nil, List.contains_cons, Nat.reduceBEq, List.any_cons, List.any_nil, beq_self_eq_true, Hm.go_c, Hm.go_g, Hm.go_v, Hm.go_mv, Hm.go_sv, Hm.go_u, Hm.go_b, Hm.go_ix, Hm.go_sl, Hm.go_tb, Hm.go_ife, Hm.go_tup, Hm.go_lst, Hm.go_call, Hm.go_idx, Hm.go_lc, Hm.go_dE, Hm.go_lr, Hm.tst_an, Hm.tst_or, Hm.tst_nt, Hm.tst_one, Hm.tst_e, Hm.val_an, Hm.val_or, Hm.val_nt, Hm.val_one, Hm.val_e, Hm.eo_no, Hm.eo_yes, Hm.to_no, Hm.to_yes, Hm.es_nil, Hm.es_cons, Hm.as_nil, Hm.as_io, Hm.as_ln, Hm.it_seq, Hm.it_scr, Hm.it_rng, Hm.it_enum, Hm.s_expr, Hm.s_ret, Hm.s_iff, Hm.s_app, Hm.s_put, Hm.s_pass, Hm.s_brk, Hm.s_cnt, Hm.ss_nil, Hm.ss_cons, Hm.kU_1, Hm.kU_2, Hm.kU_3, Hm.kB2_1, Hm.kB2_2, Hm.kB2_3, Hm.kB1_1, Hm.kB1_2, Hm.kB1_3, Hm.kI2_1, Hm.kI2_2, Hm.kI2_3, Hm.kI1_1, Hm.kI1_2, Hm.kI1_3, Hm.kS3_1, Hm.kS3_2, Hm.kS3_3, Hm.kS2_1, Hm.kS2_2, Hm.kS2_3, Hm.kS1_1, Hm.kS1_2, Hm.kS1_3, Hm.kC3_1, Hm.kC3_2, Hm.kC3_3, Hm.kC2'_1, Hm.kC2'_2, Hm.kC2_1, Hm.kC2_2, Hm.kC2_3, Hm.kC1_1, Hm.kC1_2, Hm.kC1_3, Hm.kTb_1, Hm.kTb_2, Hm.kTb_3, Hm.kIf_1, Hm.kIf_2, Hm.kIf_3, Hm.kIf_4, Hm.kTup_1, Hm.kTup_2, Hm.kTup_3, Hm.kLst_1, Hm.kLst_2, Hm.kLst_3, Hm.kCall_1, Hm.kCall_2, Hm.kCall_3, Hm.kX2_1, Hm.kX2_2, Hm.kX2_3, Hm.kX1_1, Hm.kX1_2, Hm.kX1_3, Hm.kL2_1, Hm.kL1_1, Hm.kL1_2, Hm.kL1_3, Hm.kLr_1, Hm.kLr_2, Hm.kLr_3, Hm.kOwn_1, Hm.kOwn_2, Hm.kOwn_3, Hm.kAn_1, Hm.kAn_2, Hm.kAn_3, Hm.kAn_4, Hm.kOr_1, Hm.kOr_2, Hm.kOr_3, Hm.kOr_4, Hm.kNt_1, Hm.kNt_2, Hm.kNt_3, Hm.kTr'_1, Hm.kTr'_2, Hm.kTr_1, Hm.kTr_2, Hm.kTr_3, Hm.kAnV_1, Hm.kAnV_2, Hm.kAnV_3, Hm.kAnV_4, Hm.kOrV_1, Hm.kOrV_2, Hm.kOrV_3, Hm.kOrV_4, Hm.kVl_1, Hm.kVl_2, Hm.kVl_3, Hm.kEo_1, Hm.kEo_2, Hm.kEo_3, Hm.kEs2_1, Hm.kEs2_2, Hm.kEs2_3, Hm.kEs1_1, Hm.kEs1_2, Hm.kEs1_3, Hm.kAs2_1, Hm.kAs2_2, Hm.kAs2_3, Hm.kAs1_1, Hm.kAs1_2, Hm.kAs1_3, Hm.kW_1, Hm.kW_2, Hm.kSq_1, Hm.kSq_2, Hm.kSq_3, Hm.kScr_1, Hm.kScr_2, Hm.kScr_3, Hm.kRg_1, Hm.kRg_2, Hm.kRg_3, Hm.kEn_1, Hm.kEn_2, Hm.kEn_3, Hm.kSet_1, Hm.kSet_2, Hm.kSet_3, Hm.kExp_1, Hm.kExp_2, Hm.kExp_3, Hm.kRet_1, Hm.kRet_2, Hm.kRet_3, Hm.kIff_1, Hm.kIff_2, Hm.kIff_3, Hm.kIff_4, Hm.kAp2_1, Hm.kAp1_1, Hm.kAp1_2, Hm.kAp1_3, Hm.kAp_1, Hm.kPl_1, Hm.kPl_2, Hm.kPd_1, Hm.kPd_2, Hm.kPk_1, Hm.kPk_2, Hm.kP3_1, Hm.kP3_2, Hm.kP2_1, Hm.kP2_2, Hm.kP2_3, Hm.kP1_1, Hm.kP1_2, Hm.kP1_3, Hm.kFor_1, Hm.kFor_2, Hm.kFor_3, Hm.kSeq_1, Hm.kSeq_2, Hm.kSeq_3, Hm.kSeq_4, Hm.kSeq_5, Hm.kSeq_6, Hm.kOp_s, Hm.kOp_n, Hm.kV_1, Hm.kMv_1, Hm.kSv_1, Hm.cr_1, Hm.cr_2, Hm.add_i, Hm.sub_i, Hm.mul_r, Hm.mul_l, Hm.mod_i, Hm.fdiv_i, Hm.lt_i, Hm.le_i, Hm.gt_i, Hm.ge_i, Hm.eq_i, Hm.eq_b, Hm.eq_s, Hm.ne_i, Hm.ne_b, Hm.min_i, Hm.max_i, Hm.isN_, Hm.notN_, Hm.neg_i, Hm.abs_i, Hm.int_i, Hm.int_b, Hm.len_l, Hm.len_t, Hm.ix_l, Hm.ix_t, Hm.tru_b, Hm.tru_i, Hm.own_i, Hm.ownV_v, Hm.lst_, Hm.tup_, Hm.sz_, Hm.join_s, Hm.join_n, Hm.at_0, Hm.at_1, Hm.at_2, Hm.at_3, Hm.at_4, Hm.at_5, Hm.at_6, Hm.at_7, Hm.at_8, Hm.at_9, Hm.at_10, Hm.at_11, Hm.at_12, Hm.at_13, Hm.at_14, Hm.at_15, Hm.at_16, Hm.at_17, Hm.at_18, Hm.at_19, Hm.at_20, Hm.at_21, Hm.at_22, Hm.at_23, Hm.at_24, Hm.at_25, Hm.ix5_0, Hm.ix5_1, Hm.ix5_2, Hm.ix5_3, Hm.ix5_4, Hm.pow_18, Hm.pow_39, Hm.pow_40, held, D.isC, isCs, E.pu, D.isNon, Cn.d, List.length_cons, List.length_nil, List.getElem?_cons_zero, List.getElem?_cons_succ, List.getElem?_nil, List.set_cons_zero, List.set_cons_succ, List.map_cons, List.map_nil, Option.map_some, Option.map_none, decide_eq_true_eq, Bool.true_and, Bool.and_true, Bool.false_and, Bool.and_false, Bool.not_true, Bool.not_false, Bool.or_true, Bool.true_or, Bool.or_false, Bool.false_or, or_true, true_or, or_false, false_or, and_true, true_and, Bool.false_eq_true, reduceCtorEq, not_true_eq_false, not_false_eq_true, Nat.reduceAdd, Nat.reduceLT, Nat.zero_add, eq_self, decide_true, decide_false, ↓reduceIte, Option.isSome_some, Option.isSome_none, ne_eq, Int.reduceNeg, Int.reducePow, Int.reduceLT, Int.reduceLE, Int.reduceEq, Int.reduceSub, Int.reduceAdd, Int.reduceMul, Nat.reducePow, Nat.reduceLeDiff]
  rw [go_step rfl e0]
  have c2 := call_take (n := n + 3) h1 (m := 8) (by decide) [some (.int t), none, none, none, none, none]
  have s2 := st_ts (n := n + 3) h1 (m := 8) (by decide)
  by_cases h0 : tk (n + 3) s1 8 = 0
  · have c3 := call_take (n := n + 3) s2 (m := 68) (by decide) [some (.int t), none, none, none, none, none]
    obtain ⟨_, s3, a1, a2, _⟩ := tk_eq (n := n + 3) s2 (m := 68) (by decide)
    have a3 := a2 (by decide)
    have e1 : S.go (F (n + 5)) [0] (b__law_numbers.nth (0 + 1)) [some s1, some (.int t), none, none, none, none, none] = .nx [some (ts (n + 3) (ts (n + 3) s1 8) 68), some (.int (13 + tk (n + 3) (ts (n + 3) s1 8) 68)), none, none, none, none, none] := by
      simp only [b__law_numbers, Ss.nth, c2, c3, h0, Hm.s_set, Hm.s_for, Hm.as_c, Hm.as_g, Hm.as_v, Hm.as_mv, Hm.as_u, Hm.as_b, Hm.as_ix, Hm.as_sl, Hm.as_ch, Hm.as_tb, Hm.as_ife, Hm.as_tup, Hm.as_lst, Hm.as_call, Hm.as_idx, Hm.as_lc, Hm.as_dE, Hm.as_sv, Hm.as_lr, Hm.go_ch, List.contains_nil, List.contains_cons, Nat.reduceBEq, List.any_cons, List.any_nil, beq_self_eq_true, Hm.go_c, Hm.go_g, Hm.go_v, Hm.go_mv, Hm.go_sv, Hm.go_u, Hm.go_b, Hm.go_ix, Hm.go_sl, Hm.go_tb, Hm.go_ife, Hm.go_tup, Hm.go_lst, Hm.go_call, Hm.go_idx, Hm.go_lc, Hm.go_dE, Hm.go_lr, Hm.tst_an, Hm.tst_or, Hm.tst_nt, Hm.tst_one, Hm.tst_e, Hm.val_an, Hm.val_or, Hm.val_nt, Hm.val_one, Hm.val_e, Hm.eo_no, Hm.eo_yes, Hm.to_no, Hm.to_yes, Hm.es_nil, Hm.es_cons, Hm.as_nil, Hm.as_io, Hm.as_ln, Hm.it_seq, Hm.it_scr, Hm.it_rng, Hm.it_enum, Hm.s_expr, Hm.s_ret, Hm.s_iff, Hm.s_app, Hm.s_put, Hm.s_pass, Hm.s_brk, Hm.s_cnt, Hm.ss_nil, Hm.ss_cons, Hm.kU_1, Hm.kU_2, Hm.kU_3, Hm.kB2_1, Hm.kB2_2, Hm.kB2_3, Hm.kB1_1, Hm.kB1_2, Hm.kB1_3, Hm.kI2_1, Hm.kI2_2, Hm.kI2_3, Hm.kI1_1, Hm.kI1_2, Hm.kI1_3, Hm.kS3_1, Hm.kS3_2, Hm.kS3_3, Hm.kS2_1, Hm.kS2_2, Hm.kS2_3, Hm.kS1_1, Hm.kS1_2, Hm.kS1_3, Hm.kC3_1, Hm.kC3_2, Hm.kC3_3, Hm.kC2'_1, Hm.kC2'_2, Hm.kC2_1, Hm.kC2_2, Hm.kC2_3, Hm.kC1_1, Hm.kC1_2, Hm.kC1_3, Hm.kTb_1, Hm.kTb_2, Hm.kTb_3, Hm.kIf_1, Hm.kIf_2, Hm.kIf_3, Hm.kIf_4, Hm.kTup_1, Hm.kTup_2, Hm.kTup_3, Hm.kLst_1, Hm.kLst_2, Hm.kLst_3, Hm.kCall_1, Hm.kCall_2, Hm.kCall_3, Hm.kX2_1, Hm.kX2_2, Hm.kX2_3, Hm.kX1_1, Hm.kX1_2, Hm.kX1_3, Hm.kL2_1, Hm.kL1_1, Hm.kL1_2, Hm.kL1_3, Hm.kLr_1, Hm.kLr_2, Hm.kLr_3, Hm.kOwn_1, Hm.kOwn_2, Hm.kOwn_3, Hm.kAn_1, Hm.kAn_2, Hm.kAn_3, Hm.kAn_4, Hm.kOr_1, Hm.kOr_2, Hm.kOr_3, Hm.kOr_4, Hm.kNt_1, Hm.kNt_2, Hm.kNt_3, Hm.kTr'_1, Hm.kTr'_2, Hm.kTr_1, Hm.kTr_2, Hm.kTr_3, Hm.kAnV_1, Hm.kAnV_2, Hm.kAnV_3, Hm.kAnV_4, Hm.kOrV_1, Hm.kOrV_2, Hm.kOrV_3, Hm.kOrV_4, Hm.kVl_1, Hm.kVl_2, Hm.kVl_3, Hm.kEo_1, Hm.kEo_2, Hm.kEo_3, Hm.kEs2_1, Hm.kEs2_2, Hm.kEs2_3, Hm.kEs1_1, Hm.kEs1_2, Hm.kEs1_3, Hm.kAs2_1, Hm.kAs2_2, Hm.kAs2_3, Hm.kAs1_1, Hm.kAs1_2, Hm.kAs1_3, Hm.kW_1, Hm.kW_2, Hm.kSq_1, Hm.kSq_2, Hm.kSq_3, Hm.kScr_1, Hm.kScr_2, Hm.kScr_3, Hm.kRg_1, Hm.kRg_2, Hm.kRg_3, Hm.kEn_1, Hm.kEn_2, Hm.kEn_3, Hm.kSet_1, Hm.kSet_2, Hm.kSet_3, Hm.kExp_1, Hm.kExp_2, Hm.kExp_3, Hm.kRet_1, Hm.kRet_2, Hm.kRet_3, Hm.kIff_1, Hm.kIff_2, Hm.kIff_3, Hm.kIff_4, Hm.kAp2_1, Hm.kAp1_1, Hm.kAp1_2, Hm.kAp1_3, Hm.kAp_1, Hm.kPl_1, Hm.kPl_2, Hm.kPd_1, Hm.kPd_2, Hm.kPk_1, Hm.kPk_2, Hm.kP3_1, Hm.kP3_2, Hm.kP2_1, Hm.kP2_2, Hm.kP2_3, Hm.kP1_1, Hm.kP1_2, Hm.kP1_3, Hm.kFor_1, Hm.kFor_2, Hm.kFor_3, Hm.kSeq_1, Hm.kSeq_2, Hm.kSeq_3, Hm.kSeq_4, Hm.kSeq_5, Hm.kSeq_6, Hm.kOp_s, Hm.kOp_n, Hm.kV_1, Hm.kMv_1, Hm.kSv_1, Hm.cr_1, Hm.cr_2, Hm.add_i, Hm.sub_i, Hm.mul_r, Hm.mul_l, Hm.mod_i, Hm.fdiv_i, Hm.lt_i, Hm.le_i, Hm.gt_i, Hm.ge_i, Hm.eq_i, Hm.eq_b, Hm.eq_s, Hm.ne_i, Hm.ne_b, Hm.min_i, Hm.max_i, Hm.isN_, Hm.notN_, Hm.neg_i, Hm.abs_i, Hm.int_i, Hm.int_b, Hm.len_l, Hm.len_t, Hm.ix_l, Hm.ix_t, Hm.tru_b, Hm.tru_i, Hm.own_i, Hm.ownV_v, Hm.lst_, Hm.tup_, Hm.sz_, Hm.join_s, Hm.join_n, Hm.at_0, Hm.at_1, Hm.at_2, Hm.at_3, Hm.at_4, Hm.at_5, Hm.at_6, Hm.at_7, Hm.at_8, Hm.at_9, Hm.at_10, Hm.at_11, Hm.at_12, Hm.at_13, Hm.at_14, Hm.at_15, Hm.at_16, Hm.at_17, Hm.at_18, Hm.at_19, Hm.at_20, Hm.at_21, Hm.at_22, Hm.at_23, Hm.at_24, Hm.at_25, Hm.ix5_0, Hm.ix5_1, Hm.ix5_2, Hm.ix5_3, Hm.ix5_4, Hm.pow_18, Hm.pow_39, Hm.pow_40, held, D.isC, isCs, E.pu, D.isNon, Cn.d, List.length_cons, List.length_nil, List.getElem?_cons_zero, List.getElem?_cons_succ, List.getElem?_nil, List.set_cons_zero, List.set_cons_succ, List.map_cons, List.map_nil, Option.map_some, Option.map_none, decide_eq_true_eq, Bool.true_and, Bool.and_true, Bool.false_and, Bool.and_false, Bool.not_true, Bool.not_false, Bool.or_true, Bool.true_or, Bool.or_false, Bool.false_or, or_true, true_or, or_false, false_or, and_true, true_and, Bool.false_eq_true, reduceCtorEq, not_true_eq_false, not_false_eq_true, Nat.reduceAdd, Nat.reduceLT, Nat.zero_add, eq_self, decide_true, decide_false, ↓reduceIte, Option.isSome_some, Option.isSome_none, ne_eq, Int.reduceNeg, Int.reducePow, Int.reduceLT, Int.reduceLE, Int.reduceEq, Int.reduceSub, Int.reduceAdd, Int.reduceMul, Nat.reducePow, Nat.reduceLeDiff]
    exact ⟨_, _, go_step rfl e1, s3, by omega, by omega⟩
  · have e1 : S.go (F (n + 5)) [0] (b__law_numbers.nth (0 + 1)) [some s1, some (.int t), none, none, none, none, none] = .nx [some (ts (n + 3) s1 8), some (.int t), none, none, none, none, none] := by
      simp only [b__law_numbers, Ss.nth, c2, h0, Hm.s_set, Hm.s_for, Hm.as_c, Hm.as_g, Hm.as_v, Hm.as_mv, Hm.as_u, Hm.as_b, Hm.as_ix, Hm.as_sl, Hm.as_ch, Hm.as_tb, Hm.as_ife, Hm.as_tup, Hm.as_lst, Hm.as_call, Hm.as_idx, Hm.as_lc, Hm.as_dE, Hm.as_sv, Hm.as_lr, Hm.go_ch, List.contains_nil, List.contains_cons, Nat.reduceBEq, List.any_cons, List.any_nil, beq_self_eq_true, Hm.go_c, Hm.go_g, Hm.go_v, Hm.go_mv, Hm.go_sv, Hm.go_u, Hm.go_b, Hm.go_ix, Hm.go_sl, Hm.go_tb, Hm.go_ife, Hm.go_tup, Hm.go_lst, Hm.go_call, Hm.go_idx, Hm.go_lc, Hm.go_dE, Hm.go_lr, Hm.tst_an, Hm.tst_or, Hm.tst_nt, Hm.tst_one, Hm.tst_e, Hm.val_an, Hm.val_or, Hm.val_nt, Hm.val_one, Hm.val_e, Hm.eo_no, Hm.eo_yes, Hm.to_no, Hm.to_yes, Hm.es_nil, Hm.es_cons, Hm.as_nil, Hm.as_io, Hm.as_ln, Hm.it_seq, Hm.it_scr, Hm.it_rng, Hm.it_enum, Hm.s_expr, Hm.s_ret, Hm.s_iff, Hm.s_app, Hm.s_put, Hm.s_pass, Hm.s_brk, Hm.s_cnt, Hm.ss_nil, Hm.ss_cons, Hm.kU_1, Hm.kU_2, Hm.kU_3, Hm.kB2_1, Hm.kB2_2, Hm.kB2_3, Hm.kB1_1, Hm.kB1_2, Hm.kB1_3, Hm.kI2_1, Hm.kI2_2, Hm.kI2_3, Hm.kI1_1, Hm.kI1_2, Hm.kI1_3, Hm.kS3_1, Hm.kS3_2, Hm.kS3_3, Hm.kS2_1, Hm.kS2_2, Hm.kS2_3, Hm.kS1_1, Hm.kS1_2, Hm.kS1_3, Hm.kC3_1, Hm.kC3_2, Hm.kC3_3, Hm.kC2'_1, Hm.kC2'_2, Hm.kC2_1, Hm.kC2_2, Hm.kC2_3, Hm.kC1_1, Hm.kC1_2, Hm.kC1_3, Hm.kTb_1, Hm.kTb_2, Hm.kTb_3, Hm.kIf_1, Hm.kIf_2, Hm.kIf_3, Hm.kIf_4, Hm.kTup_1, Hm.kTup_2, Hm.kTup_3, Hm.kLst_1, Hm.kLst_2, Hm.kLst_3, Hm.kCall_1, Hm.kCall_2, Hm.kCall_3, Hm.kX2_1, Hm.kX2_2, Hm.kX2_3, Hm.kX1_1, Hm.kX1_2, Hm.kX1_3, Hm.kL2_1, Hm.kL1_1, Hm.kL1_2, Hm.kL1_3, Hm.kLr_1, Hm.kLr_2, Hm.kLr_3, Hm.kOwn_1, Hm.kOwn_2, Hm.kOwn_3, Hm.kAn_1, Hm.kAn_2, Hm.kAn_3, Hm.kAn_4, Hm.kOr_1, Hm.kOr_2, Hm.kOr_3, Hm.kOr_4, Hm.kNt_1, Hm.kNt_2, Hm.kNt_3, Hm.kTr'_1, Hm.kTr'_2, Hm.kTr_1, Hm.kTr_2, Hm.kTr_3, Hm.kAnV_1, Hm.kAnV_2, Hm.kAnV_3, Hm.kAnV_4, Hm.kOrV_1, Hm.kOrV_2, Hm.kOrV_3, Hm.kOrV_4, Hm.kVl_1, Hm.kVl_2, Hm.kVl_3, Hm.kEo_1, Hm.kEo_2, Hm.kEo_3, Hm.kEs2_1, Hm.kEs2_2, Hm.kEs2_3, Hm.kEs1_1, Hm.kEs1_2, Hm.kEs1_3, Hm.kAs2_1, Hm.kAs2_2, Hm.kAs2_3, Hm.kAs1_1, Hm.kAs1_2, Hm.kAs1_3, Hm.kW_1, Hm.kW_2, Hm.kSq_1, Hm.kSq_2, Hm.kSq_3, Hm.kScr_1, Hm.kScr_2, Hm.kScr_3, Hm.kRg_1, Hm.kRg_2, Hm.kRg_3, Hm.kEn_1, Hm.kEn_2, Hm.kEn_3, Hm.kSet_1, Hm.kSet_2, Hm.kSet_3, Hm.kExp_1, Hm.kExp_2, Hm.kExp_3, Hm.kRet_1, Hm.kRet_2, Hm.kRet_3, Hm.kIff_1, Hm.kIff_2, Hm.kIff_3, Hm.kIff_4, Hm.kAp2_1, Hm.kAp1_1, Hm.kAp1_2, Hm.kAp1_3, Hm.kAp_1, Hm.kPl_1, Hm.kPl_2, Hm.kPd_1, Hm.kPd_2, Hm.kPk_1, Hm.kPk_2, Hm.kP3_1, Hm.kP3_2, Hm.kP2_1, Hm.kP2_2, Hm.kP2_3, Hm.kP1_1, Hm.kP1_2, Hm.kP1_3, Hm.kFor_1, Hm.kFor_2, Hm.kFor_3, Hm.kSeq_1, Hm.kSeq_2, Hm.kSeq_3, Hm.kSeq_4, Hm.kSeq_5, Hm.kSeq_6, Hm.kOp_s, Hm.kOp_n, Hm.kV_1, Hm.kMv_1, Hm.kSv_1, Hm.cr_1, Hm.cr_2, Hm.add_i, Hm.sub_i, Hm.mul_r, Hm.mul_l, Hm.mod_i, Hm.fdiv_i, Hm.lt_i, Hm.le_i, Hm.gt_i, Hm.ge_i, Hm.eq_i, Hm.eq_b, Hm.eq_s, Hm.ne_i, Hm.ne_b, Hm.min_i, Hm.max_i, Hm.isN_, Hm.notN_, Hm.neg_i, Hm.abs_i, Hm.int_i, Hm.int_b, Hm.len_l, Hm.len_t, Hm.ix_l, Hm.ix_t, Hm.tru_b, Hm.tru_i, Hm.own_i, Hm.ownV_v, Hm.lst_, Hm.tup_, Hm.sz_, Hm.join_s, Hm.join_n, Hm.at_0, Hm.at_1, Hm.at_2, Hm.at_3, Hm.at_4, Hm.at_5, Hm.at_6, Hm.at_7, Hm.at_8, Hm.at_9, Hm.at_10, Hm.at_11, Hm.at_12, Hm.at_13, Hm.at_14, Hm.at_15, Hm.at_16, Hm.at_17, Hm.at_18, Hm.at_19, Hm.at_20, Hm.at_21, Hm.at_22, Hm.at_23, Hm.at_24, Hm.at_25, Hm.ix5_0, Hm.ix5_1, Hm.ix5_2, Hm.ix5_3, Hm.ix5_4, Hm.pow_18, Hm.pow_39, Hm.pow_40, held, D.isC, isCs, E.pu, D.isNon, Cn.d, List.length_cons, List.length_nil, List.getElem?_cons_zero, List.getElem?_cons_succ, List.getElem?_nil, List.set_cons_zero, List.set_cons_succ, List.map_cons, List.map_nil, Option.map_some, Option.map_none, decide_eq_true_eq, Bool.true_and, Bool.and_true, Bool.false_and, Bool.and_false, Bool.not_true, Bool.not_false, Bool.or_true, Bool.true_or, Bool.or_false, Bool.false_or, or_true, true_or, or_false, false_or, and_true, true_and, Bool.false_eq_true, reduceCtorEq, not_true_eq_false, not_false_eq_true, Nat.reduceAdd, Nat.reduceLT, Nat.zero_add, eq_self, decide_true, decide_false, ↓reduceIte, Option.isSome_some, Option.isSome_none, ne_eq, Int.reduceNeg, Int.reducePow, Int.reduceLT, Int.reduceLE, Int.reduceEq, Int.reduceSub, Int.reduceAdd, Int.reduceMul, Nat.reducePow, Nat.reduceLeDiff]
    exact ⟨_, _, go_step rfl e1, s2, by omega, by omega⟩
theorem num_3 (n : Nat) (s : D) (h : St s) (m : Int) (m0 : 0 ≤ m) (m1 : m ≤ 80) : ∃ (s' : D) (x2 x4 x5 : Option D) (zs : List Int), Ss.go (F (n + 5)) [0] (b__law_numbers.dr 2) [some s, some (.int m), none, none, none, none, none] = Ss.go (F (n + 5)) [0] (b__law_numbers.dr 4) [some s', some (.int m), x2, some (.lst true (zs.map .int)), x4, x5, none] ∧ St s' ∧ zs.length ≤ 80 := by
  have c0 := call_take (n := n + 3) h (m := 4) (by decide) [some (.int m), none, none, none, none, none]
  obtain ⟨_, s0, k0, k1, _⟩ := tk_eq (n := n + 3) h (m := 4) (by decide)
  have k1 := k1 (by decide)
  generalize tk (n + 3) s 4 = k at *
  generalize ts (n + 3) s 4 = s1 at *
  have e0 : S.go (F (n + 5)) [0] (b__law_numbers.nth 2) [some s, some (.int m), none, none, none, none, none] = .nx [some s1, some (.int m), some (.int k), none, none, none, none] := by
    simp only [b__law_numbers, Ss.nth, c0, Hm.s_set, Hm.s_for, Hm.as_c, Hm.as_g, Hm.as_v, Hm.as_mv, Hm.as_u, Hm.as_b, Hm.as_ix, Hm.as_sl, Hm.as_ch, Hm.as_tb, Hm.as_ife, Hm.as_tup, Hm.as_lst, Hm.as_call, Hm.as_idx, Hm.as_lc, Hm.as_dE, Hm.as_sv, Hm.as_lr, Hm.go_ch, List.contains_nil, List.contains_cons, Nat.reduceBEq, List.any_cons, List.any_nil, beq_self_eq_true, Hm.go_c, Hm.go_g, Hm.go_v, Hm.go_mv, Hm.go_sv, Hm.go_u, Hm.go_b, Hm.go_ix, Hm.go_sl, Hm.go_tb, Hm.go_ife, Hm.go_tup, Hm.go_lst, Hm.go_call, Hm.go_idx, Hm.go_lc, Hm.go_dE, Hm.go_lr, Hm.tst_an, Hm.tst_or, Hm.tst_nt, Hm.tst_one, Hm.tst_e, Hm.val_an, Hm.val_or, Hm.val_nt, Hm.val_one, Hm.val_e, Hm.eo_no, Hm.eo_yes, Hm.to_no, Hm.to_yes, Hm.es_nil, Hm.es_cons, Hm.as_nil, Hm.as_io, Hm.as_ln, Hm.it_seq, Hm.it_scr, Hm.it_rng, Hm.it_enum, Hm.s_expr, Hm.s_ret, Hm.s_iff, Hm.s_app, Hm.s_put, Hm.s_pass, Hm.s_brk, Hm.s_cnt, Hm.ss_nil, Hm.ss_cons, Hm.kU_1, Hm.kU_2, Hm.kU_3, Hm.kB2_1, Hm.kB2_2, Hm.kB2_3, Hm.kB1_1, Hm.kB1_2, Hm.kB1_3, Hm.kI2_1, Hm.kI2_2, Hm.kI2_3, Hm.kI1_1, Hm.kI1_2, Hm.kI1_3, Hm.kS3_1, Hm.kS3_2, Hm.kS3_3, Hm.kS2_1, Hm.kS2_2, Hm.kS2_3, Hm.kS1_1, Hm.kS1_2, Hm.kS1_3, Hm.kC3_1, Hm.kC3_2, Hm.kC3_3, Hm.kC2'_1, Hm.kC2'_2, Hm.kC2_1, Hm.kC2_2, Hm.kC2_3, Hm.kC1_1, Hm.kC1_2, Hm.kC1_3, Hm.kTb_1, Hm.kTb_2, Hm.kTb_3, Hm.kIf_1, Hm.kIf_2, Hm.kIf_3, Hm.kIf_4, Hm.kTup_1, Hm.kTup_2, Hm.kTup_3, Hm.kLst_1, Hm.kLst_2, Hm.kLst_3, Hm.kCall_1, Hm.kCall_2, Hm.kCall_3, Hm.kX2_1, Hm.kX2_2, Hm.kX2_3, Hm.kX1_1, Hm.kX1_2, Hm.kX1_3, Hm.kL2_1, Hm.kL1_1, Hm.kL1_2, Hm.kL1_3, Hm.kLr_1, Hm.kLr_2, Hm.kLr_3, Hm.kOwn_1, Hm.kOwn_2, Hm.kOwn_3, Hm.kAn_1, Hm.kAn_2, Hm.kAn_3, Hm.kAn_4, Hm.kOr_1, Hm.kOr_2, Hm.kOr_3, Hm.kOr_4, Hm.kNt_1, Hm.kNt_2, Hm.kNt_3, Hm.kTr'_1, Hm.kTr'_2, Hm.kTr_1, Hm.kTr_2, Hm.kTr_3, Hm.kAnV_1, Hm.kAnV_2, Hm.kAnV_3, Hm.kAnV_4, Hm.kOrV_1, Hm.kOrV_2, Hm.kOrV_3, Hm.kOrV_4, Hm.kVl_1, Hm.kVl_2, Hm.kVl_3, Hm.kEo_1, Hm.kEo_2, Hm.kEo_3, Hm.kEs2_1, Hm.kEs2_2, Hm.kEs2_3, Hm.kEs1_1, Hm.kEs1_2, Hm.kEs1_3, Hm.kAs2_1, Hm.kAs2_2, Hm.kAs2_3, Hm.kAs1_1, Hm.kAs1_2, Hm.kAs1_3, Hm.kW_1, Hm.kW_2, Hm.kSq_1, Hm.kSq_2, Hm.kSq_3, Hm.kScr_1, Hm.kScr_2, Hm.kScr_3, Hm.kRg_1, Hm.kRg_2, Hm.kRg_3, Hm.kEn_1, Hm.kEn_2, Hm.kEn_3, Hm.kSet_1, Hm.kSet_2, Hm.kSet_3, Hm.kExp_1, Hm.kExp_2, Hm.kExp_3, Hm.kRet_1, Hm.kRet_2, Hm.kRet_3, Hm.kIff_1, Hm.kIff_2, Hm.kIff_3, Hm.kIff_4, Hm.kAp2_1, Hm.kAp1_1, Hm.kAp1_2, Hm.kAp1_3, Hm.kAp_1, Hm.kPl_1, Hm.kPl_2, Hm.kPd_1, Hm.kPd_2, Hm.kPk_1, Hm.kPk_2, Hm.kP3_1, Hm.kP3_2, Hm.kP2_1, Hm.kP2_2, Hm.kP2_3, Hm.kP1_1, Hm.kP1_2, Hm.kP1_3, Hm.kFor_1, Hm.kFor_2, Hm.kFor_3, Hm.kSeq_1, Hm.kSeq_2, Hm.kSeq_3, Hm.kSeq_4, Hm.kSeq_5, Hm.kSeq_6, Hm.kOp_s, Hm.kOp_n, Hm.kV_1, Hm.kMv_1, Hm.kSv_1, Hm.cr_1, Hm.cr_2, Hm.add_i, Hm.sub_i, Hm.mul_r, Hm.mul_l, Hm.mod_i, Hm.fdiv_i, Hm.lt_i, Hm.le_i, Hm.gt_i, Hm.ge_i, Hm.eq_i, Hm.eq_b, Hm.eq_s, Hm.ne_i, Hm.ne_b, Hm.min_i, Hm.max_i, Hm.isN_, Hm.notN_, Hm.neg_i, Hm.abs_i, Hm.int_i, Hm.int_b, Hm.len_l, Hm.len_t, Hm.ix_l, Hm.ix_t, Hm.tru_b, Hm.tru_i, Hm.own_i, Hm.ownV_v, Hm.lst_, Hm.tup_, Hm.sz_, Hm.join_s, Hm.join_n, Hm.at_0, Hm.at_1, Hm.at_2, Hm.at_3, Hm.at_4, Hm.at_5, Hm.at_6, Hm.at_7, Hm.at_8, Hm.at_9, Hm.at_10, Hm.at_11, Hm.at_12, Hm.at_13, Hm.at_14, Hm.at_15, Hm.at_16, Hm.at_17, Hm.at_18, Hm.at_19, Hm.at_20, Hm.at_21, Hm.at_22, Hm.at_23, Hm.at_24, Hm.at_25, Hm.ix5_0, Hm.ix5_1, Hm.ix5_2, Hm.ix5_3, Hm.ix5_4, Hm.pow_18, Hm.pow_39, Hm.pow_40, held, D.isC, isCs, E.pu, D.isNon, Cn.d, List.length_cons, List.length_nil, List.getElem?_cons_zero, List.getElem?_cons_succ, List.getElem?_nil, List.set_cons_zero, List.set_cons_succ, List.map_cons, List.map_nil, Option.map_some, Option.map_none, decide_eq_true_eq, Bool.true_and, Bool.and_true, Bool.false_and, Bool.and_false, Bool.not_true, Bool.not_false, Bool.or_true, Bool.true_or, Bool.or_false, Bool.false_or, or_true, true_or, or_false, false_or, and_true, true_and, Bool.false_eq_true, reduceCtorEq, not_true_eq_false, not_false_eq_true, Nat.reduceAdd, Nat.reduceLT, Nat.zero_add, eq_self, decide_true, decide_false, ↓reduceIte, Option.isSome_some, Option.isSome_none, ne_eq, Int.reduceNeg, Int.reducePow, Int.reduceLT, Int.reduceLE, Int.reduceEq, Int.reduceSub, Int.reduceAdd, Int.reduceMul, Nat.reducePow, Nat.reduceLeDiff]
  rw [go_step rfl e0]
  have w1 : ∀ x0 x1 x2 x3 x4 x5 x6, wipeE [x0, x1, x2, x3, x4, x5, x6] [6] = [x0, x1, x2, x3, x4, x5, none] := fun _ _ _ _ _ _ _ => rfl
  have r1 : (-4611686018427387904 ≤ m) = True := eq_true (by omega)
  have r2 : (m < 4611686018427387904) = True := eq_true (by omega)
  by_cases h0 : k = 0
  · obtain ⟨zs, s2, c1, s2h, hn⟩ := call_heights n s1 s0 m m0 (by omega)
    have e1 : S.go (F (n + 5)) [0] (b__law_numbers.nth (2 + 1)) [some s1, some (.int m), some (.int k), none, none, none, none] = .nx [some s2, some (.int m), some (.int k), some (.lst true (zs.map .int)), none, none, none] := by
      simp only [b__law_numbers, Ss.nth, c1, h0, Hm.s_set, Hm.s_for, Hm.as_c, Hm.as_g, Hm.as_v, Hm.as_mv, Hm.as_u, Hm.as_b, Hm.as_ix, Hm.as_sl, Hm.as_ch, Hm.as_tb, Hm.as_ife, Hm.as_tup, Hm.as_lst, Hm.as_call, Hm.as_idx, Hm.as_lc, Hm.as_dE, Hm.as_sv, Hm.as_lr, Hm.go_ch, List.contains_nil, List.contains_cons, Nat.reduceBEq, List.any_cons, List.any_nil, beq_self_eq_true, Hm.go_c, Hm.go_g, Hm.go_v, Hm.go_mv, Hm.go_sv, Hm.go_u, Hm.go_b, Hm.go_ix, Hm.go_sl, Hm.go_tb, Hm.go_ife, Hm.go_tup, Hm.go_lst, Hm.go_call, Hm.go_idx, Hm.go_lc, Hm.go_dE, Hm.go_lr, Hm.tst_an, Hm.tst_or, Hm.tst_nt, Hm.tst_one, Hm.tst_e, Hm.val_an, Hm.val_or, Hm.val_nt, Hm.val_one, Hm.val_e, Hm.eo_no, Hm.eo_yes, Hm.to_no, Hm.to_yes, Hm.es_nil, Hm.es_cons, Hm.as_nil, Hm.as_io, Hm.as_ln, Hm.it_seq, Hm.it_scr, Hm.it_rng, Hm.it_enum, Hm.s_expr, Hm.s_ret, Hm.s_iff, Hm.s_app, Hm.s_put, Hm.s_pass, Hm.s_brk, Hm.s_cnt, Hm.ss_nil, Hm.ss_cons, Hm.kU_1, Hm.kU_2, Hm.kU_3, Hm.kB2_1, Hm.kB2_2, Hm.kB2_3, Hm.kB1_1, Hm.kB1_2, Hm.kB1_3, Hm.kI2_1, Hm.kI2_2, Hm.kI2_3, Hm.kI1_1, Hm.kI1_2, Hm.kI1_3, Hm.kS3_1, Hm.kS3_2, Hm.kS3_3, Hm.kS2_1, Hm.kS2_2, Hm.kS2_3, Hm.kS1_1, Hm.kS1_2, Hm.kS1_3, Hm.kC3_1, Hm.kC3_2, Hm.kC3_3, Hm.kC2'_1, Hm.kC2'_2, Hm.kC2_1, Hm.kC2_2, Hm.kC2_3, Hm.kC1_1, Hm.kC1_2, Hm.kC1_3, Hm.kTb_1, Hm.kTb_2, Hm.kTb_3, Hm.kIf_1, Hm.kIf_2, Hm.kIf_3, Hm.kIf_4, Hm.kTup_1, Hm.kTup_2, Hm.kTup_3, Hm.kLst_1, Hm.kLst_2, Hm.kLst_3, Hm.kCall_1, Hm.kCall_2, Hm.kCall_3, Hm.kX2_1, Hm.kX2_2, Hm.kX2_3, Hm.kX1_1, Hm.kX1_2, Hm.kX1_3, Hm.kL2_1, Hm.kL1_1, Hm.kL1_2, Hm.kL1_3, Hm.kLr_1, Hm.kLr_2, Hm.kLr_3, Hm.kOwn_1, Hm.kOwn_2, Hm.kOwn_3, Hm.kAn_1, Hm.kAn_2, Hm.kAn_3, Hm.kAn_4, Hm.kOr_1, Hm.kOr_2, Hm.kOr_3, Hm.kOr_4, Hm.kNt_1, Hm.kNt_2, Hm.kNt_3, Hm.kTr'_1, Hm.kTr'_2, Hm.kTr_1, Hm.kTr_2, Hm.kTr_3, Hm.kAnV_1, Hm.kAnV_2, Hm.kAnV_3, Hm.kAnV_4, Hm.kOrV_1, Hm.kOrV_2, Hm.kOrV_3, Hm.kOrV_4, Hm.kVl_1, Hm.kVl_2, Hm.kVl_3, Hm.kEo_1, Hm.kEo_2, Hm.kEo_3, Hm.kEs2_1, Hm.kEs2_2, Hm.kEs2_3, Hm.kEs1_1, Hm.kEs1_2, Hm.kEs1_3, Hm.kAs2_1, Hm.kAs2_2, Hm.kAs2_3, Hm.kAs1_1, Hm.kAs1_2, Hm.kAs1_3, Hm.kW_1, Hm.kW_2, Hm.kSq_1, Hm.kSq_2, Hm.kSq_3, Hm.kScr_1, Hm.kScr_2, Hm.kScr_3, Hm.kRg_1, Hm.kRg_2, Hm.kRg_3, Hm.kEn_1, Hm.kEn_2, Hm.kEn_3, Hm.kSet_1, Hm.kSet_2, Hm.kSet_3, Hm.kExp_1, Hm.kExp_2, Hm.kExp_3, Hm.kRet_1, Hm.kRet_2, Hm.kRet_3, Hm.kIff_1, Hm.kIff_2, Hm.kIff_3, Hm.kIff_4, Hm.kAp2_1, Hm.kAp1_1, Hm.kAp1_2, Hm.kAp1_3, Hm.kAp_1, Hm.kPl_1, Hm.kPl_2, Hm.kPd_1, Hm.kPd_2, Hm.kPk_1, Hm.kPk_2, Hm.kP3_1, Hm.kP3_2, Hm.kP2_1, Hm.kP2_2, Hm.kP2_3, Hm.kP1_1, Hm.kP1_2, Hm.kP1_3, Hm.kFor_1, Hm.kFor_2, Hm.kFor_3, Hm.kSeq_1, Hm.kSeq_2, Hm.kSeq_3, Hm.kSeq_4, Hm.kSeq_5, Hm.kSeq_6, Hm.kOp_s, Hm.kOp_n, Hm.kV_1, Hm.kMv_1, Hm.kSv_1, Hm.cr_1, Hm.cr_2, Hm.add_i, Hm.sub_i, Hm.mul_r, Hm.mul_l, Hm.mod_i, Hm.fdiv_i, Hm.lt_i, Hm.le_i, Hm.gt_i, Hm.ge_i, Hm.eq_i, Hm.eq_b, Hm.eq_s, Hm.ne_i, Hm.ne_b, Hm.min_i, Hm.max_i, Hm.isN_, Hm.notN_, Hm.neg_i, Hm.abs_i, Hm.int_i, Hm.int_b, Hm.len_l, Hm.len_t, Hm.ix_l, Hm.ix_t, Hm.tru_b, Hm.tru_i, Hm.own_i, Hm.ownV_v, Hm.lst_, Hm.tup_, Hm.sz_, Hm.join_s, Hm.join_n, Hm.at_0, Hm.at_1, Hm.at_2, Hm.at_3, Hm.at_4, Hm.at_5, Hm.at_6, Hm.at_7, Hm.at_8, Hm.at_9, Hm.at_10, Hm.at_11, Hm.at_12, Hm.at_13, Hm.at_14, Hm.at_15, Hm.at_16, Hm.at_17, Hm.at_18, Hm.at_19, Hm.at_20, Hm.at_21, Hm.at_22, Hm.at_23, Hm.at_24, Hm.at_25, Hm.ix5_0, Hm.ix5_1, Hm.ix5_2, Hm.ix5_3, Hm.ix5_4, Hm.pow_18, Hm.pow_39, Hm.pow_40, held, D.isC, isCs, E.pu, D.isNon, Cn.d, List.length_cons, List.length_nil, List.getElem?_cons_zero, List.getElem?_cons_succ, List.getElem?_nil, List.set_cons_zero, List.set_cons_succ, List.map_cons, List.map_nil, Option.map_some, Option.map_none, decide_eq_true_eq, Bool.true_and, Bool.and_true, Bool.false_and, Bool.and_false, Bool.not_true, Bool.not_false, Bool.or_true, Bool.true_or, Bool.or_false, Bool.false_or, or_true, true_or, or_false, false_or, and_true, true_and, Bool.false_eq_true, reduceCtorEq, not_true_eq_false, not_false_eq_true, Nat.reduceAdd, Nat.reduceLT, Nat.zero_add, eq_self, decide_true, decide_false, ↓reduceIte, Option.isSome_some, Option.isSome_none, ne_eq, Int.reduceNeg, Int.reducePow, Int.reduceLT, Int.reduceLE, Int.reduceEq, Int.reduceSub, Int.reduceAdd, Int.reduceMul, Nat.reducePow, Nat.reduceLeDiff]
    exact ⟨_, _, _, _, zs, go_step rfl e1, s2h, by omega⟩
  · by_cases h1 : k = 1
    · obtain ⟨zs, ρ', e, ⟨s2, s2h, rfl⟩, hn⟩ := lc_rng (F := F (n + 5)) (t := 6) (el := .call 6 (.cons (.io 0) .nil)) (fun ρ => ∃ s, St s ∧ ρ = [some s, some (.int m), some (.int k), none, none, none, none]) (if 20 < m then 20 else m) (by split <;> omega) (by split <;> omega) _ ⟨s1, s0, rfl⟩ (by
        rintro ρ i ⟨s, hs, rfl⟩ i0 i1
        obtain ⟨z, s', c3, hs'⟩ := call_wide (n + 1) s hs
        refine ⟨rfl, z, [some s', some (.int m), some (.int k), none, none, none, some (.int i)], ?_, ⟨s', hs', rfl⟩⟩
        show kOwn (.call 6 (.cons (.io 0) .nil)) (E.go _ _ [some s, some (.int m), some (.int k), none, none, none, some (.int i)]) = .ok _ [some s', some (.int m), some (.int k), none, none, none, some (.int i)]
        simp only [c3, Hm.s_set, Hm.s_for, Hm.as_c, Hm.as_g, Hm.as_v, Hm.as_mv, Hm.as_u, Hm.as_b, Hm.as_ix, Hm.as_sl, Hm.as_ch, Hm.as_tb, Hm.as_ife, Hm.as_tup, Hm.as_lst, Hm.as_call, Hm.as_idx, Hm.as_lc, Hm.as_dE, Hm.as_sv, Hm.as_lr, Hm.go_ch, List.contains_nil, List.contains_cons, Nat.reduceBEq, List.any_cons, List.any_nil, beq_self_eq_true, Hm.go_c, Hm.go_g, Hm.go_v, Hm.go_mv, Hm.go_sv, Hm.go_u, Hm.go_b, Hm.go_ix, Hm.go_sl, Hm.go_tb, Hm.go_ife, Hm.go_tup, Hm.go_lst, Hm.go_call, Hm.go_idx, Hm.go_lc, Hm.go_dE, Hm.go_lr, Hm.tst_an, Hm.tst_or, Hm.tst_nt, Hm.tst_one, Hm.tst_e, Hm.val_an, Hm.val_or, Hm.val_nt, Hm.val_one, Hm.val_e, Hm.eo_no, Hm.eo_yes, Hm.to_no, Hm.to_yes, Hm.es_nil, Hm.es_cons, Hm.as_nil, Hm.as_io, Hm.as_ln, Hm.it_seq, Hm.it_scr, Hm.it_rng, Hm.it_enum, Hm.s_expr, Hm.s_ret, Hm.s_iff, Hm.s_app, Hm.s_put, Hm.s_pass, Hm.s_brk, Hm.s_cnt, Hm.ss_nil, Hm.ss_cons, Hm.kU_1, Hm.kU_2, Hm.kU_3, Hm.kB2_1, Hm.kB2_2, Hm.kB2_3, Hm.kB1_1, Hm.kB1_2, Hm.kB1_3, Hm.kI2_1, Hm.kI2_2, Hm.kI2_3, Hm.kI1_1, Hm.kI1_2, Hm.kI1_3, Hm.kS3_1, Hm.kS3_2, Hm.kS3_3, Hm.kS2_1, Hm.kS2_2, Hm.kS2_3, Hm.kS1_1, Hm.kS1_2, Hm.kS1_3, Hm.kC3_1, Hm.kC3_2, Hm.kC3_3, Hm.kC2'_1, Hm.kC2'_2, Hm.kC2_1, Hm.kC2_2, Hm.kC2_3, Hm.kC1_1, Hm.kC1_2, Hm.kC1_3, Hm.kTb_1, Hm.kTb_2, Hm.kTb_3, Hm.kIf_1, Hm.kIf_2, Hm.kIf_3, Hm.kIf_4, Hm.kTup_1, Hm.kTup_2, Hm.kTup_3, Hm.kLst_1, Hm.kLst_2, Hm.kLst_3, Hm.kCall_1, Hm.kCall_2, Hm.kCall_3, Hm.kX2_1, Hm.kX2_2, Hm.kX2_3, Hm.kX1_1, Hm.kX1_2, Hm.kX1_3, Hm.kL2_1, Hm.kL1_1, Hm.kL1_2, Hm.kL1_3, Hm.kLr_1, Hm.kLr_2, Hm.kLr_3, Hm.kOwn_1, Hm.kOwn_2, Hm.kOwn_3, Hm.kAn_1, Hm.kAn_2, Hm.kAn_3, Hm.kAn_4, Hm.kOr_1, Hm.kOr_2, Hm.kOr_3, Hm.kOr_4, Hm.kNt_1, Hm.kNt_2, Hm.kNt_3, Hm.kTr'_1, Hm.kTr'_2, Hm.kTr_1, Hm.kTr_2, Hm.kTr_3, Hm.kAnV_1, Hm.kAnV_2, Hm.kAnV_3, Hm.kAnV_4, Hm.kOrV_1, Hm.kOrV_2, Hm.kOrV_3, Hm.kOrV_4, Hm.kVl_1, Hm.kVl_2, Hm.kVl_3, Hm.kEo_1, Hm.kEo_2, Hm.kEo_3, Hm.kEs2_1, Hm.kEs2_2, Hm.kEs2_3, Hm.kEs1_1, Hm.kEs1_2, Hm.kEs1_3, Hm.kAs2_1, Hm.kAs2_2, Hm.kAs2_3, Hm.kAs1_1, Hm.kAs1_2, Hm.kAs1_3, Hm.kW_1, Hm.kW_2, Hm.kSq_1, Hm.kSq_2, Hm.kSq_3, Hm.kScr_1, Hm.kScr_2, Hm.kScr_3, Hm.kRg_1, Hm.kRg_2, Hm.kRg_3, Hm.kEn_1, Hm.kEn_2, Hm.kEn_3, Hm.kSet_1, Hm.kSet_2, Hm.kSet_3, Hm.kExp_1, Hm.kExp_2, Hm.kExp_3, Hm.kRet_1, Hm.kRet_2, Hm.kRet_3, Hm.kIff_1, Hm.kIff_2, Hm.kIff_3, Hm.kIff_4, Hm.kAp2_1, Hm.kAp1_1, Hm.kAp1_2, Hm.kAp1_3, Hm.kAp_1, Hm.kPl_1, Hm.kPl_2, Hm.kPd_1, Hm.kPd_2, Hm.kPk_1, Hm.kPk_2, Hm.kP3_1, Hm.kP3_2, Hm.kP2_1, Hm.kP2_2, Hm.kP2_3, Hm.kP1_1, Hm.kP1_2, Hm.kP1_3, Hm.kFor_1, Hm.kFor_2, Hm.kFor_3, Hm.kSeq_1, Hm.kSeq_2, Hm.kSeq_3, Hm.kSeq_4, Hm.kSeq_5, Hm.kSeq_6, Hm.kOp_s, Hm.kOp_n, Hm.kV_1, Hm.kMv_1, Hm.kSv_1, Hm.cr_1, Hm.cr_2, Hm.add_i, Hm.sub_i, Hm.mul_r, Hm.mul_l, Hm.mod_i, Hm.fdiv_i, Hm.lt_i, Hm.le_i, Hm.gt_i, Hm.ge_i, Hm.eq_i, Hm.eq_b, Hm.eq_s, Hm.ne_i, Hm.ne_b, Hm.min_i, Hm.max_i, Hm.isN_, Hm.notN_, Hm.neg_i, Hm.abs_i, Hm.int_i, Hm.int_b, Hm.len_l, Hm.len_t, Hm.ix_l, Hm.ix_t, Hm.tru_b, Hm.tru_i, Hm.own_i, Hm.ownV_v, Hm.lst_, Hm.tup_, Hm.sz_, Hm.join_s, Hm.join_n, Hm.at_0, Hm.at_1, Hm.at_2, Hm.at_3, Hm.at_4, Hm.at_5, Hm.at_6, Hm.at_7, Hm.at_8, Hm.at_9, Hm.at_10, Hm.at_11, Hm.at_12, Hm.at_13, Hm.at_14, Hm.at_15, Hm.at_16, Hm.at_17, Hm.at_18, Hm.at_19, Hm.at_20, Hm.at_21, Hm.at_22, Hm.at_23, Hm.at_24, Hm.at_25, Hm.ix5_0, Hm.ix5_1, Hm.ix5_2, Hm.ix5_3, Hm.ix5_4, Hm.pow_18, Hm.pow_39, Hm.pow_40, held, D.isC, isCs, E.pu, D.isNon, Cn.d, List.length_cons, List.length_nil, List.getElem?_cons_zero, List.getElem?_cons_succ, List.getElem?_nil, List.set_cons_zero, List.set_cons_succ, List.map_cons, List.map_nil, Option.map_some, Option.map_none, decide_eq_true_eq, Bool.true_and, Bool.and_true, Bool.false_and, Bool.and_false, Bool.not_true, Bool.not_false, Bool.or_true, Bool.true_or, Bool.or_false, Bool.false_or, or_true, true_or, or_false, false_or, and_true, true_and, Bool.false_eq_true, reduceCtorEq, not_true_eq_false, not_false_eq_true, Nat.reduceAdd, Nat.reduceLT, Nat.zero_add, eq_self, decide_true, decide_false, ↓reduceIte, Option.isSome_some, Option.isSome_none, ne_eq, Int.reduceNeg, Int.reducePow, Int.reduceLT, Int.reduceLE, Int.reduceEq, Int.reduceSub, Int.reduceAdd, Int.reduceMul, Nat.reducePow, Nat.reduceLeDiff])
      have r3 : (-4611686018427387904 ≤ (if 20 < m then 20 else m)) = True := eq_true (by split <;> omega)
      have r4 : ((if 20 < m then 20 else m) < 4611686018427387904) = True := eq_true (by split <;> omega)
      have e1 : S.go (F (n + 5)) [0] (b__law_numbers.nth (2 + 1)) [some s1, some (.int m), some (.int k), none, none, none, none] = .nx [some s2, some (.int m), some (.int k), some (.lst true (zs.map .int)), none, none, none] := by
        rw [h1] at e
        simp only [b__law_numbers, Ss.nth, h1, r3, r4, w1, e, Hm.s_set, Hm.s_for, Hm.as_c, Hm.as_g, Hm.as_v, Hm.as_mv, Hm.as_u, Hm.as_b, Hm.as_ix, Hm.as_sl, Hm.as_ch, Hm.as_tb, Hm.as_ife, Hm.as_tup, Hm.as_lst, Hm.as_call, Hm.as_idx, Hm.as_lc, Hm.as_dE, Hm.as_sv, Hm.as_lr, Hm.go_ch, List.contains_nil, List.contains_cons, Nat.reduceBEq, List.any_cons, List.any_nil, beq_self_eq_true, Hm.go_c, Hm.go_g, Hm.go_v, Hm.go_mv, Hm.go_sv, Hm.go_u, Hm.go_b, Hm.go_ix, Hm.go_sl, Hm.go_tb, Hm.go_ife, Hm.go_tup, Hm.go_lst, Hm.go_call, Hm.go_idx, Hm.go_lc, Hm.go_dE, Hm.go_lr, Hm.tst_an, Hm.tst_or, Hm.tst_nt, Hm.tst_one, Hm.tst_e, Hm.val_an, Hm.val_or, Hm.val_nt, Hm.val_one, Hm.val_e, Hm.eo_no, Hm.eo_yes, Hm.to_no, Hm.to_yes, Hm.es_nil, Hm.es_cons, Hm.as_nil, Hm.as_io, Hm.as_ln, Hm.it_seq, Hm.it_scr, Hm.it_rng, Hm.it_enum, Hm.s_expr, Hm.s_ret, Hm.s_iff, Hm.s_app, Hm.s_put, Hm.s_pass, Hm.s_brk, Hm.s_cnt, Hm.ss_nil, Hm.ss_cons, Hm.kU_1, Hm.kU_2, Hm.kU_3, Hm.kB2_1, Hm.kB2_2, Hm.kB2_3, Hm.kB1_1, Hm.kB1_2, Hm.kB1_3, Hm.kI2_1, Hm.kI2_2, Hm.kI2_3, Hm.kI1_1, Hm.kI1_2, Hm.kI1_3, Hm.kS3_1, Hm.kS3_2, Hm.kS3_3, Hm.kS2_1, Hm.kS2_2, Hm.kS2_3, Hm.kS1_1, Hm.kS1_2, Hm.kS1_3, Hm.kC3_1, Hm.kC3_2, Hm.kC3_3, Hm.kC2'_1, Hm.kC2'_2, Hm.kC2_1, Hm.kC2_2, Hm.kC2_3, Hm.kC1_1, Hm.kC1_2, Hm.kC1_3, Hm.kTb_1, Hm.kTb_2, Hm.kTb_3, Hm.kIf_1, Hm.kIf_2, Hm.kIf_3, Hm.kIf_4, Hm.kTup_1, Hm.kTup_2, Hm.kTup_3, Hm.kLst_1, Hm.kLst_2, Hm.kLst_3, Hm.kCall_1, Hm.kCall_2, Hm.kCall_3, Hm.kX2_1, Hm.kX2_2, Hm.kX2_3, Hm.kX1_1, Hm.kX1_2, Hm.kX1_3, Hm.kL2_1, Hm.kL1_1, Hm.kL1_2, Hm.kL1_3, Hm.kLr_1, Hm.kLr_2, Hm.kLr_3, Hm.kOwn_1, Hm.kOwn_2, Hm.kOwn_3, Hm.kAn_1, Hm.kAn_2, Hm.kAn_3, Hm.kAn_4, Hm.kOr_1, Hm.kOr_2, Hm.kOr_3, Hm.kOr_4, Hm.kNt_1, Hm.kNt_2, Hm.kNt_3, Hm.kTr'_1, Hm.kTr'_2, Hm.kTr_1, Hm.kTr_2, Hm.kTr_3, Hm.kAnV_1, Hm.kAnV_2, Hm.kAnV_3, Hm.kAnV_4, Hm.kOrV_1, Hm.kOrV_2, Hm.kOrV_3, Hm.kOrV_4, Hm.kVl_1, Hm.kVl_2, Hm.kVl_3, Hm.kEo_1, Hm.kEo_2, Hm.kEo_3, Hm.kEs2_1, Hm.kEs2_2, Hm.kEs2_3, Hm.kEs1_1, Hm.kEs1_2, Hm.kEs1_3, Hm.kAs2_1, Hm.kAs2_2, Hm.kAs2_3, Hm.kAs1_1, Hm.kAs1_2, Hm.kAs1_3, Hm.kW_1, Hm.kW_2, Hm.kSq_1, Hm.kSq_2, Hm.kSq_3, Hm.kScr_1, Hm.kScr_2, Hm.kScr_3, Hm.kRg_1, Hm.kRg_2, Hm.kRg_3, Hm.kEn_1, Hm.kEn_2, Hm.kEn_3, Hm.kSet_1, Hm.kSet_2, Hm.kSet_3, Hm.kExp_1, Hm.kExp_2, Hm.kExp_3, Hm.kRet_1, Hm.kRet_2, Hm.kRet_3, Hm.kIff_1, Hm.kIff_2, Hm.kIff_3, Hm.kIff_4, Hm.kAp2_1, Hm.kAp1_1, Hm.kAp1_2, Hm.kAp1_3, Hm.kAp_1, Hm.kPl_1, Hm.kPl_2, Hm.kPd_1, Hm.kPd_2, Hm.kPk_1, Hm.kPk_2, Hm.kP3_1, Hm.kP3_2, Hm.kP2_1, Hm.kP2_2, Hm.kP2_3, Hm.kP1_1, Hm.kP1_2, Hm.kP1_3, Hm.kFor_1, Hm.kFor_2, Hm.kFor_3, Hm.kSeq_1, Hm.kSeq_2, Hm.kSeq_3, Hm.kSeq_4, Hm.kSeq_5, Hm.kSeq_6, Hm.kOp_s, Hm.kOp_n, Hm.kV_1, Hm.kMv_1, Hm.kSv_1, Hm.cr_1, Hm.cr_2, Hm.add_i, Hm.sub_i, Hm.mul_r, Hm.mul_l, Hm.mod_i, Hm.fdiv_i, Hm.lt_i, Hm.le_i, Hm.gt_i, Hm.ge_i, Hm.eq_i, Hm.eq_b, Hm.eq_s, Hm.ne_i, Hm.ne_b, Hm.min_i, Hm.max_i, Hm.isN_, Hm.notN_, Hm.neg_i, Hm.abs_i, Hm.int_i, Hm.int_b, Hm.len_l, Hm.len_t, Hm.ix_l, Hm.ix_t, Hm.tru_b, Hm.tru_i, Hm.own_i, Hm.ownV_v, Hm.lst_, Hm.tup_, Hm.sz_, Hm.join_s, Hm.join_n, Hm.at_0, Hm.at_1, Hm.at_2, Hm.at_3, Hm.at_4, Hm.at_5, Hm.at_6, Hm.at_7, Hm.at_8, Hm.at_9, Hm.at_10, Hm.at_11, Hm.at_12, Hm.at_13, Hm.at_14, Hm.at_15, Hm.at_16, Hm.at_17, Hm.at_18, Hm.at_19, Hm.at_20, Hm.at_21, Hm.at_22, Hm.at_23, Hm.at_24, Hm.at_25, Hm.ix5_0, Hm.ix5_1, Hm.ix5_2, Hm.ix5_3, Hm.ix5_4, Hm.pow_18, Hm.pow_39, Hm.pow_40, held, D.isC, isCs, E.pu, D.isNon, Cn.d, List.length_cons, List.length_nil, List.getElem?_cons_zero, List.getElem?_cons_succ, List.getElem?_nil, List.set_cons_zero, List.set_cons_succ, List.map_cons, List.map_nil, Option.map_some, Option.map_none, decide_eq_true_eq, Bool.true_and, Bool.and_true, Bool.false_and, Bool.and_false, Bool.not_true, Bool.not_false, Bool.or_true, Bool.true_or, Bool.or_false, Bool.false_or, or_true, true_or, or_false, false_or, and_true, true_and, Bool.false_eq_true, reduceCtorEq, not_true_eq_false, not_false_eq_true, Nat.reduceAdd, Nat.reduceLT, Nat.zero_add, eq_self, decide_true, decide_false, ↓reduceIte, Option.isSome_some, Option.isSome_none, ne_eq, Int.reduceNeg, Int.reducePow, Int.reduceLT, Int.reduceLE, Int.reduceEq, Int.reduceSub, Int.reduceAdd, Int.reduceMul, Nat.reducePow, Nat.reduceLeDiff]
      exact ⟨_, _, _, _, zs, go_step rfl e1, s2h, by have : (if 20 < m then 20 else m) ≤ 80 := by split <;> omega
                                                     omega⟩
    · by_cases h2 : k = 2
      · obtain ⟨b, s2, c3, hs2⟩ := call_wide (n + 1) s1 s0
        obtain ⟨zs, ρ', e, ⟨s3, s3h, rfl⟩, hn⟩ := lc_rng (F := F (n + 5)) (t := 6) (el := .b .add (.v 4) (.call 3 (.cons (.io 0) (.cons (.c (.int 6)) .nil)))) (fun ρ => ∃ s, St s ∧ ρ = [some s, some (.int m), some (.int k), none, some (.int (b.fdiv 10)), none, none]) m m0 (by omega) _ ⟨s2, hs2, rfl⟩ (by
          rintro ρ i ⟨s, hs, rfl⟩ i0 i1
          have c4 := call_take (n := n + 3) hs (m := 6) (by decide) [some (.int m), some (.int k), none, some (.int (b.fdiv 10)), none, some (.int i)]
          refine ⟨rfl, b.fdiv 10 + tk (n + 3) s 6, [some (ts (n + 3) s 6), some (.int m), some (.int k), none, some (.int (b.fdiv 10)), none, some (.int i)], ?_, ⟨ts (n + 3) s 6, st_ts (n := n + 3) hs (m := 6) (by decide), rfl⟩⟩
          show kOwn (.b .add (.v 4) (.call 3 (.cons (.io 0) (.cons (.c (.int 6)) .nil)))) (E.go _ _ [some s, some (.int m), some (.int k), none, some (.int (b.fdiv 10)), none, some (.int i)]) = .ok _ [some (ts (n + 3) s 6), some (.int m), some (.int k), none, some (.int (b.fdiv 10)), none, some (.int i)]
          simp only [c4, Hm.s_set, Hm.s_for, Hm.as_c, Hm.as_g, Hm.as_v, Hm.as_mv, Hm.as_u, Hm.as_b, Hm.as_ix, Hm.as_sl, Hm.as_ch, Hm.as_tb, Hm.as_ife, Hm.as_tup, Hm.as_lst, Hm.as_call, Hm.as_idx, Hm.as_lc, Hm.as_dE, Hm.as_sv, Hm.as_lr, Hm.go_ch, List.contains_nil, List.contains_cons, Nat.reduceBEq, List.any_cons, List.any_nil, beq_self_eq_true, Hm.go_c, Hm.go_g, Hm.go_v, Hm.go_mv, Hm.go_sv, Hm.go_u, Hm.go_b, Hm.go_ix, Hm.go_sl, Hm.go_tb, Hm.go_ife, Hm.go_tup, Hm.go_lst, Hm.go_call, Hm.go_idx, Hm.go_lc, Hm.go_dE, Hm.go_lr, Hm.tst_an, Hm.tst_or, Hm.tst_nt, Hm.tst_one, Hm.tst_e, Hm.val_an, Hm.val_or, Hm.val_nt, Hm.val_one, Hm.val_e, Hm.eo_no, Hm.eo_yes, Hm.to_no, Hm.to_yes, Hm.es_nil, Hm.es_cons, Hm.as_nil, Hm.as_io, Hm.as_ln, Hm.it_seq, Hm.it_scr, Hm.it_rng, Hm.it_enum, Hm.s_expr, Hm.s_ret, Hm.s_iff, Hm.s_app, Hm.s_put, Hm.s_pass, Hm.s_brk, Hm.s_cnt, Hm.ss_nil, Hm.ss_cons, Hm.kU_1, Hm.kU_2, Hm.kU_3, Hm.kB2_1, Hm.kB2_2, Hm.kB2_3, Hm.kB1_1, Hm.kB1_2, Hm.kB1_3, Hm.kI2_1, Hm.kI2_2, Hm.kI2_3, Hm.kI1_1, Hm.kI1_2, Hm.kI1_3, Hm.kS3_1, Hm.kS3_2, Hm.kS3_3, Hm.kS2_1, Hm.kS2_2, Hm.kS2_3, Hm.kS1_1, Hm.kS1_2, Hm.kS1_3, Hm.kC3_1, Hm.kC3_2, Hm.kC3_3, Hm.kC2'_1, Hm.kC2'_2, Hm.kC2_1, Hm.kC2_2, Hm.kC2_3, Hm.kC1_1, Hm.kC1_2, Hm.kC1_3, Hm.kTb_1, Hm.kTb_2, Hm.kTb_3, Hm.kIf_1, Hm.kIf_2, Hm.kIf_3, Hm.kIf_4, Hm.kTup_1, Hm.kTup_2, Hm.kTup_3, Hm.kLst_1, Hm.kLst_2, Hm.kLst_3, Hm.kCall_1, Hm.kCall_2, Hm.kCall_3, Hm.kX2_1, Hm.kX2_2, Hm.kX2_3, Hm.kX1_1, Hm.kX1_2, Hm.kX1_3, Hm.kL2_1, Hm.kL1_1, Hm.kL1_2, Hm.kL1_3, Hm.kLr_1, Hm.kLr_2, Hm.kLr_3, Hm.kOwn_1, Hm.kOwn_2, Hm.kOwn_3, Hm.kAn_1, Hm.kAn_2, Hm.kAn_3, Hm.kAn_4, Hm.kOr_1, Hm.kOr_2, Hm.kOr_3, Hm.kOr_4, Hm.kNt_1, Hm.kNt_2, Hm.kNt_3, Hm.kTr'_1, Hm.kTr'_2, Hm.kTr_1, Hm.kTr_2, Hm.kTr_3, Hm.kAnV_1, Hm.kAnV_2, Hm.kAnV_3, Hm.kAnV_4, Hm.kOrV_1, Hm.kOrV_2, Hm.kOrV_3, Hm.kOrV_4, Hm.kVl_1, Hm.kVl_2, Hm.kVl_3, Hm.kEo_1, Hm.kEo_2, Hm.kEo_3, Hm.kEs2_1, Hm.kEs2_2, Hm.kEs2_3, Hm.kEs1_1, Hm.kEs1_2, Hm.kEs1_3, Hm.kAs2_1, Hm.kAs2_2, Hm.kAs2_3, Hm.kAs1_1, Hm.kAs1_2, Hm.kAs1_3, Hm.kW_1, Hm.kW_2, Hm.kSq_1, Hm.kSq_2, Hm.kSq_3, Hm.kScr_1, Hm.kScr_2, Hm.kScr_3, Hm.kRg_1, Hm.kRg_2, Hm.kRg_3, Hm.kEn_1, Hm.kEn_2, Hm.kEn_3, Hm.kSet_1, Hm.kSet_2, Hm.kSet_3, Hm.kExp_1, Hm.kExp_2, Hm.kExp_3, Hm.kRet_1, Hm.kRet_2, Hm.kRet_3, Hm.kIff_1, Hm.kIff_2, Hm.kIff_3, Hm.kIff_4, Hm.kAp2_1, Hm.kAp1_1, Hm.kAp1_2, Hm.kAp1_3, Hm.kAp_1, Hm.kPl_1, Hm.kPl_2, Hm.kPd_1, Hm.kPd_2, Hm.kPk_1, Hm.kPk_2, Hm.kP3_1, Hm.kP3_2, Hm.kP2_1, Hm.kP2_2, Hm.kP2_3, Hm.kP1_1, Hm.kP1_2, Hm.kP1_3, Hm.kFor_1, Hm.kFor_2, Hm.kFor_3, Hm.kSeq_1, Hm.kSeq_2, Hm.kSeq_3, Hm.kSeq_4, Hm.kSeq_5, Hm.kSeq_6, Hm.kOp_s, Hm.kOp_n, Hm.kV_1, Hm.kMv_1, Hm.kSv_1, Hm.cr_1, Hm.cr_2, Hm.add_i, Hm.sub_i, Hm.mul_r, Hm.mul_l, Hm.mod_i, Hm.fdiv_i, Hm.lt_i, Hm.le_i, Hm.gt_i, Hm.ge_i, Hm.eq_i, Hm.eq_b, Hm.eq_s, Hm.ne_i, Hm.ne_b, Hm.min_i, Hm.max_i, Hm.isN_, Hm.notN_, Hm.neg_i, Hm.abs_i, Hm.int_i, Hm.int_b, Hm.len_l, Hm.len_t, Hm.ix_l, Hm.ix_t, Hm.tru_b, Hm.tru_i, Hm.own_i, Hm.ownV_v, Hm.lst_, Hm.tup_, Hm.sz_, Hm.join_s, Hm.join_n, Hm.at_0, Hm.at_1, Hm.at_2, Hm.at_3, Hm.at_4, Hm.at_5, Hm.at_6, Hm.at_7, Hm.at_8, Hm.at_9, Hm.at_10, Hm.at_11, Hm.at_12, Hm.at_13, Hm.at_14, Hm.at_15, Hm.at_16, Hm.at_17, Hm.at_18, Hm.at_19, Hm.at_20, Hm.at_21, Hm.at_22, Hm.at_23, Hm.at_24, Hm.at_25, Hm.ix5_0, Hm.ix5_1, Hm.ix5_2, Hm.ix5_3, Hm.ix5_4, Hm.pow_18, Hm.pow_39, Hm.pow_40, held, D.isC, isCs, E.pu, D.isNon, Cn.d, List.length_cons, List.length_nil, List.getElem?_cons_zero, List.getElem?_cons_succ, List.getElem?_nil, List.set_cons_zero, List.set_cons_succ, List.map_cons, List.map_nil, Option.map_some, Option.map_none, decide_eq_true_eq, Bool.true_and, Bool.and_true, Bool.false_and, Bool.and_false, Bool.not_true, Bool.not_false, Bool.or_true, Bool.true_or, Bool.or_false, Bool.false_or, or_true, true_or, or_false, false_or, and_true, true_and, Bool.false_eq_true, reduceCtorEq, not_true_eq_false, not_false_eq_true, Nat.reduceAdd, Nat.reduceLT, Nat.zero_add, eq_self, decide_true, decide_false, ↓reduceIte, Option.isSome_some, Option.isSome_none, ne_eq, Int.reduceNeg, Int.reducePow, Int.reduceLT, Int.reduceLE, Int.reduceEq, Int.reduceSub, Int.reduceAdd, Int.reduceMul, Nat.reducePow, Nat.reduceLeDiff])
        have e1 : S.go (F (n + 5)) [0] (b__law_numbers.nth (2 + 1)) [some s1, some (.int m), some (.int k), none, none, none, none] = .nx [some s3, some (.int m), some (.int k), some (.lst true (zs.map .int)), some (.int (b.fdiv 10)), none, none] := by
          rw [h2] at e
          simp only [b__law_numbers, Ss.nth, h2, r1, r2, w1, c3, e, Hm.s_set, Hm.s_for, Hm.as_c, Hm.as_g, Hm.as_v, Hm.as_mv, Hm.as_u, Hm.as_b, Hm.as_ix, Hm.as_sl, Hm.as_ch, Hm.as_tb, Hm.as_ife, Hm.as_tup, Hm.as_lst, Hm.as_call, Hm.as_idx, Hm.as_lc, Hm.as_dE, Hm.as_sv, Hm.as_lr, Hm.go_ch, List.contains_nil, List.contains_cons, Nat.reduceBEq, List.any_cons, List.any_nil, beq_self_eq_true, Hm.go_c, Hm.go_g, Hm.go_v, Hm.go_mv, Hm.go_sv, Hm.go_u, Hm.go_b, Hm.go_ix, Hm.go_sl, Hm.go_tb, Hm.go_ife, Hm.go_tup, Hm.go_lst, Hm.go_call, Hm.go_idx, Hm.go_lc, Hm.go_dE, Hm.go_lr, Hm.tst_an, Hm.tst_or, Hm.tst_nt, Hm.tst_one, Hm.tst_e, Hm.val_an, Hm.val_or, Hm.val_nt, Hm.val_one, Hm.val_e, Hm.eo_no, Hm.eo_yes, Hm.to_no, Hm.to_yes, Hm.es_nil, Hm.es_cons, Hm.as_nil, Hm.as_io, Hm.as_ln, Hm.it_seq, Hm.it_scr, Hm.it_rng, Hm.it_enum, Hm.s_expr, Hm.s_ret, Hm.s_iff, Hm.s_app, Hm.s_put, Hm.s_pass, Hm.s_brk, Hm.s_cnt, Hm.ss_nil, Hm.ss_cons, Hm.kU_1, Hm.kU_2, Hm.kU_3, Hm.kB2_1, Hm.kB2_2, Hm.kB2_3, Hm.kB1_1, Hm.kB1_2, Hm.kB1_3, Hm.kI2_1, Hm.kI2_2, Hm.kI2_3, Hm.kI1_1, Hm.kI1_2, Hm.kI1_3, Hm.kS3_1, Hm.kS3_2, Hm.kS3_3, Hm.kS2_1, Hm.kS2_2, Hm.kS2_3, Hm.kS1_1, Hm.kS1_2, Hm.kS1_3, Hm.kC3_1, Hm.kC3_2, Hm.kC3_3, Hm.kC2'_1, Hm.kC2'_2, Hm.kC2_1, Hm.kC2_2, Hm.kC2_3, Hm.kC1_1, Hm.kC1_2, Hm.kC1_3, Hm.kTb_1, Hm.kTb_2, Hm.kTb_3, Hm.kIf_1, Hm.kIf_2, Hm.kIf_3, Hm.kIf_4, Hm.kTup_1, Hm.kTup_2, Hm.kTup_3, Hm.kLst_1, Hm.kLst_2, Hm.kLst_3, Hm.kCall_1, Hm.kCall_2, Hm.kCall_3, Hm.kX2_1, Hm.kX2_2, Hm.kX2_3, Hm.kX1_1, Hm.kX1_2, Hm.kX1_3, Hm.kL2_1, Hm.kL1_1, Hm.kL1_2, Hm.kL1_3, Hm.kLr_1, Hm.kLr_2, Hm.kLr_3, Hm.kOwn_1, Hm.kOwn_2, Hm.kOwn_3, Hm.kAn_1, Hm.kAn_2, Hm.kAn_3, Hm.kAn_4, Hm.kOr_1, Hm.kOr_2, Hm.kOr_3, Hm.kOr_4, Hm.kNt_1, Hm.kNt_2, Hm.kNt_3, Hm.kTr'_1, Hm.kTr'_2, Hm.kTr_1, Hm.kTr_2, Hm.kTr_3, Hm.kAnV_1, Hm.kAnV_2, Hm.kAnV_3, Hm.kAnV_4, Hm.kOrV_1, Hm.kOrV_2, Hm.kOrV_3, Hm.kOrV_4, Hm.kVl_1, Hm.kVl_2, Hm.kVl_3, Hm.kEo_1, Hm.kEo_2, Hm.kEo_3, Hm.kEs2_1, Hm.kEs2_2, Hm.kEs2_3, Hm.kEs1_1, Hm.kEs1_2, Hm.kEs1_3, Hm.kAs2_1, Hm.kAs2_2, Hm.kAs2_3, Hm.kAs1_1, Hm.kAs1_2, Hm.kAs1_3, Hm.kW_1, Hm.kW_2, Hm.kSq_1, Hm.kSq_2, Hm.kSq_3, Hm.kScr_1, Hm.kScr_2, Hm.kScr_3, Hm.kRg_1, Hm.kRg_2, Hm.kRg_3, Hm.kEn_1, Hm.kEn_2, Hm.kEn_3, Hm.kSet_1, Hm.kSet_2, Hm.kSet_3, Hm.kExp_1, Hm.kExp_2, Hm.kExp_3, Hm.kRet_1, Hm.kRet_2, Hm.kRet_3, Hm.kIff_1, Hm.kIff_2, Hm.kIff_3, Hm.kIff_4, Hm.kAp2_1, Hm.kAp1_1, Hm.kAp1_2, Hm.kAp1_3, Hm.kAp_1, Hm.kPl_1, Hm.kPl_2, Hm.kPd_1, Hm.kPd_2, Hm.kPk_1, Hm.kPk_2, Hm.kP3_1, Hm.kP3_2, Hm.kP2_1, Hm.kP2_2, Hm.kP2_3, Hm.kP1_1, Hm.kP1_2, Hm.kP1_3, Hm.kFor_1, Hm.kFor_2, Hm.kFor_3, Hm.kSeq_1, Hm.kSeq_2, Hm.kSeq_3, Hm.kSeq_4, Hm.kSeq_5, Hm.kSeq_6, Hm.kOp_s, Hm.kOp_n, Hm.kV_1, Hm.kMv_1, Hm.kSv_1, Hm.cr_1, Hm.cr_2, Hm.add_i, Hm.sub_i, Hm.mul_r, Hm.mul_l, Hm.mod_i, Hm.fdiv_i, Hm.lt_i, Hm.le_i, Hm.gt_i, Hm.ge_i, Hm.eq_i, Hm.eq_b, Hm.eq_s, Hm.ne_i, Hm.ne_b, Hm.min_i, Hm.max_i, Hm.isN_, Hm.notN_, Hm.neg_i, Hm.abs_i, Hm.int_i, Hm.int_b, Hm.len_l, Hm.len_t, Hm.ix_l, Hm.ix_t, Hm.tru_b, Hm.tru_i, Hm.own_i, Hm.ownV_v, Hm.lst_, Hm.tup_, Hm.sz_, Hm.join_s, Hm.join_n, Hm.at_0, Hm.at_1, Hm.at_2, Hm.at_3, Hm.at_4, Hm.at_5, Hm.at_6, Hm.at_7, Hm.at_8, Hm.at_9, Hm.at_10, Hm.at_11, Hm.at_12, Hm.at_13, Hm.at_14, Hm.at_15, Hm.at_16, Hm.at_17, Hm.at_18, Hm.at_19, Hm.at_20, Hm.at_21, Hm.at_22, Hm.at_23, Hm.at_24, Hm.at_25, Hm.ix5_0, Hm.ix5_1, Hm.ix5_2, Hm.ix5_3, Hm.ix5_4, Hm.pow_18, Hm.pow_39, Hm.pow_40, held, D.isC, isCs, E.pu, D.isNon, Cn.d, List.length_cons, List.length_nil, List.getElem?_cons_zero, List.getElem?_cons_succ, List.getElem?_nil, List.set_cons_zero, List.set_cons_succ, List.map_cons, List.map_nil, Option.map_some, Option.map_none, decide_eq_true_eq, Bool.true_and, Bool.and_true, Bool.false_and, Bool.and_false, Bool.not_true, Bool.not_false, Bool.or_true, Bool.true_or, Bool.or_false, Bool.false_or, or_true, true_or, or_false, false_or, and_true, true_and, Bool.false_eq_true, reduceCtorEq, not_true_eq_false, not_false_eq_true, Nat.reduceAdd, Nat.reduceLT, Nat.zero_add, eq_self, decide_true, decide_false, ↓reduceIte, Option.isSome_some, Option.isSome_none, ne_eq, Int.reduceNeg, Int.reducePow, Int.reduceLT, Int.reduceLE, Int.reduceEq, Int.reduceSub, Int.reduceAdd, Int.reduceMul, Nat.reducePow, Nat.reduceLeDiff]
        exact ⟨_, _, _, _, zs, go_step rfl e1, s3h, by omega⟩
      · have c4 := call_take (n := n + 3) s0 (m := 4) (by decide) [some (.int m), some (.int k), none, none, none, none]
        obtain ⟨_, s2h, j0, j1, _⟩ := tk_eq (n := n + 3) s0 (m := 4) (by decide)
        have j1 := j1 (by decide)
        generalize tk (n + 3) s1 4 = j at *
        generalize ts (n + 3) s1 4 = s2 at *
        obtain ⟨ws, ρ', e, ⟨s3, s3h, rfl⟩, hn⟩ := lc_rng (F := F (n + 5)) (t := 6) (el := .call 6 (.cons (.io 0) .nil)) (fun ρ => ∃ s, St s ∧ ρ = [some s, some (.int m), some (.int k), none, none, none, none]) (1 + j) (by omega) (by omega) _ ⟨s2, s2h, rfl⟩ (by
          rintro ρ i ⟨s, hs, rfl⟩ i0 i1
          obtain ⟨z, s', c3, hs'⟩ := call_wide (n + 1) s hs
          refine ⟨rfl, z, [some s', some (.int m), some (.int k), none, none, none, some (.int i)], ?_, ⟨s', hs', rfl⟩⟩
          show kOwn (.call 6 (.cons (.io 0) .nil)) (E.go _ _ [some s, some (.int m), some (.int k), none, none, none, some (.int i)]) = .ok _ [some s', some (.int m), some (.int k), none, none, none, some (.int i)]
          simp only [c3, Hm.s_set, Hm.s_for, Hm.as_c, Hm.as_g, Hm.as_v, Hm.as_mv, Hm.as_u, Hm.as_b, Hm.as_ix, Hm.as_sl, Hm.as_ch, Hm.as_tb, Hm.as_ife, Hm.as_tup, Hm.as_lst, Hm.as_call, Hm.as_idx, Hm.as_lc, Hm.as_dE, Hm.as_sv, Hm.as_lr, Hm.go_ch, List.contains_nil, List.contains_cons, Nat.reduceBEq, List.any_cons, List.any_nil, beq_self_eq_true, Hm.go_c, Hm.go_g, Hm.go_v, Hm.go_mv, Hm.go_sv, Hm.go_u, Hm.go_b, Hm.go_ix, Hm.go_sl, Hm.go_tb, Hm.go_ife, Hm.go_tup, Hm.go_lst, Hm.go_call, Hm.go_idx, Hm.go_lc, Hm.go_dE, Hm.go_lr, Hm.tst_an, Hm.tst_or, Hm.tst_nt, Hm.tst_one, Hm.tst_e, Hm.val_an, Hm.val_or, Hm.val_nt, Hm.val_one, Hm.val_e, Hm.eo_no, Hm.eo_yes, Hm.to_no, Hm.to_yes, Hm.es_nil, Hm.es_cons, Hm.as_nil, Hm.as_io, Hm.as_ln, Hm.it_seq, Hm.it_scr, Hm.it_rng, Hm.it_enum, Hm.s_expr, Hm.s_ret, Hm.s_iff, Hm.s_app, Hm.s_put, Hm.s_pass, Hm.s_brk, Hm.s_cnt, Hm.ss_nil, Hm.ss_cons, Hm.kU_1, Hm.kU_2, Hm.kU_3, Hm.kB2_1, Hm.kB2_2, Hm.kB2_3, Hm.kB1_1, Hm.kB1_2, Hm.kB1_3, Hm.kI2_1, Hm.kI2_2, Hm.kI2_3, Hm.kI1_1, Hm.kI1_2, Hm.kI1_3, Hm.kS3_1, Hm.kS3_2, Hm.kS3_3, Hm.kS2_1, Hm.kS2_2, Hm.kS2_3, Hm.kS1_1, Hm.kS1_2, Hm.kS1_3, Hm.kC3_1, Hm.kC3_2, Hm.kC3_3, Hm.kC2'_1, Hm.kC2'_2, Hm.kC2_1, Hm.kC2_2, Hm.kC2_3, Hm.kC1_1, Hm.kC1_2, Hm.kC1_3, Hm.kTb_1, Hm.kTb_2, Hm.kTb_3, Hm.kIf_1, Hm.kIf_2, Hm.kIf_3, Hm.kIf_4, Hm.kTup_1, Hm.kTup_2, Hm.kTup_3, Hm.kLst_1, Hm.kLst_2, Hm.kLst_3, Hm.kCall_1, Hm.kCall_2, Hm.kCall_3, Hm.kX2_1, Hm.kX2_2, Hm.kX2_3, Hm.kX1_1, Hm.kX1_2, Hm.kX1_3, Hm.kL2_1, Hm.kL1_1, Hm.kL1_2, Hm.kL1_3, Hm.kLr_1, Hm.kLr_2, Hm.kLr_3, Hm.kOwn_1, Hm.kOwn_2, Hm.kOwn_3, Hm.kAn_1, Hm.kAn_2, Hm.kAn_3, Hm.kAn_4, Hm.kOr_1, Hm.kOr_2, Hm.kOr_3, Hm.kOr_4, Hm.kNt_1, Hm.kNt_2, Hm.kNt_3, Hm.kTr'_1, Hm.kTr'_2, Hm.kTr_1, Hm.kTr_2, Hm.kTr_3, Hm.kAnV_1, Hm.kAnV_2, Hm.kAnV_3, Hm.kAnV_4, Hm.kOrV_1, Hm.kOrV_2, Hm.kOrV_3, Hm.kOrV_4, Hm.kVl_1, Hm.kVl_2, Hm.kVl_3, Hm.kEo_1, Hm.kEo_2, Hm.kEo_3, Hm.kEs2_1, Hm.kEs2_2, Hm.kEs2_3, Hm.kEs1_1, Hm.kEs1_2, Hm.kEs1_3, Hm.kAs2_1, Hm.kAs2_2, Hm.kAs2_3, Hm.kAs1_1, Hm.kAs1_2, Hm.kAs1_3, Hm.kW_1, Hm.kW_2, Hm.kSq_1, Hm.kSq_2, Hm.kSq_3, Hm.kScr_1, Hm.kScr_2, Hm.kScr_3, Hm.kRg_1, Hm.kRg_2, Hm.kRg_3, Hm.kEn_1, Hm.kEn_2, Hm.kEn_3, Hm.kSet_1, Hm.kSet_2, Hm.kSet_3, Hm.kExp_1, Hm.kExp_2, Hm.kExp_3, Hm.kRet_1, Hm.kRet_2, Hm.kRet_3, Hm.kIff_1, Hm.kIff_2, Hm.kIff_3, Hm.kIff_4, Hm.kAp2_1, Hm.kAp1_1, Hm.kAp1_2, Hm.kAp1_3, Hm.kAp_1, Hm.kPl_1, Hm.kPl_2, Hm.kPd_1, Hm.kPd_2, Hm.kPk_1, Hm.kPk_2, Hm.kP3_1, Hm.kP3_2, Hm.kP2_1, Hm.kP2_2, Hm.kP2_3, Hm.kP1_1, Hm.kP1_2, Hm.kP1_3, Hm.kFor_1, Hm.kFor_2, Hm.kFor_3, Hm.kSeq_1, Hm.kSeq_2, Hm.kSeq_3, Hm.kSeq_4, Hm.kSeq_5, Hm.kSeq_6, Hm.kOp_s, Hm.kOp_n, Hm.kV_1, Hm.kMv_1, Hm.kSv_1, Hm.cr_1, Hm.cr_2, Hm.add_i, Hm.sub_i, Hm.mul_r, Hm.mul_l, Hm.mod_i, Hm.fdiv_i, Hm.lt_i, Hm.le_i, Hm.gt_i, Hm.ge_i, Hm.eq_i, Hm.eq_b, Hm.eq_s, Hm.ne_i, Hm.ne_b, Hm.min_i, Hm.max_i, Hm.isN_, Hm.notN_, Hm.neg_i, Hm.abs_i, Hm.int_i, Hm.int_b, Hm.len_l, Hm.len_t, Hm.ix_l, Hm.ix_t, Hm.tru_b, Hm.tru_i, Hm.own_i, Hm.ownV_v, Hm.lst_, Hm.tup_, Hm.sz_, Hm.join_s, Hm.join_n, Hm.at_0, Hm.at_1, Hm.at_2, Hm.at_3, Hm.at_4, Hm.at_5, Hm.at_6, Hm.at_7, Hm.at_8, Hm.at_9, Hm.at_10, Hm.at_11, Hm.at_12, Hm.at_13, Hm.at_14, Hm.at_15, Hm.at_16, Hm.at_17, Hm.at_18, Hm.at_19, Hm.at_20, Hm.at_21, Hm.at_22, Hm.at_23, Hm.at_24, Hm.at_25, Hm.ix5_0, Hm.ix5_1, Hm.ix5_2, Hm.ix5_3, Hm.ix5_4, Hm.pow_18, Hm.pow_39, Hm.pow_40, held, D.isC, isCs, E.pu, D.isNon, Cn.d, List.length_cons, List.length_nil, List.getElem?_cons_zero, List.getElem?_cons_succ, List.getElem?_nil, List.set_cons_zero, List.set_cons_succ, List.map_cons, List.map_nil, Option.map_some, Option.map_none, decide_eq_true_eq, Bool.true_and, Bool.and_true, Bool.false_and, Bool.and_false, Bool.not_true, Bool.not_false, Bool.or_true, Bool.true_or, Bool.or_false, Bool.false_or, or_true, true_or, or_false, false_or, and_true, true_and, Bool.false_eq_true, reduceCtorEq, not_true_eq_false, not_false_eq_true, Nat.reduceAdd, Nat.reduceLT, Nat.zero_add, eq_self, decide_true, decide_false, ↓reduceIte, Option.isSome_some, Option.isSome_none, ne_eq, Int.reduceNeg, Int.reducePow, Int.reduceLT, Int.reduceLE, Int.reduceEq, Int.reduceSub, Int.reduceAdd, Int.reduceMul, Nat.reducePow, Nat.reduceLeDiff])
        obtain ⟨zs, ρ', e2, ⟨s4, o, s4h, rfl⟩, hn2⟩ := lc_rng (F := F (n + 5)) (t := 6) (el := .call 4 (.cons (.io 0) (.cons (.v 5) .nil))) (fun ρ => ∃ s o, St s ∧ ρ = [some s, some (.int m), some (.int k), none, none, some (.lst o (ws.map .int)), none]) m m0 (by omega) _ ⟨s3, true, s3h, rfl⟩ (by
          rintro ρ i ⟨s, o, hs, rfl⟩ i0 i1
          obtain ⟨z, s', _, hs', c5⟩ := pickI (n + 2) s hs false ws (by omega) (by omega)
          refine ⟨rfl, z, [some s', some (.int m), some (.int k), none, none, some (.lst false (ws.map .int)), some (.int i)], ?_, ⟨s', false, hs', rfl⟩⟩
          show kOwn (.call 4 (.cons (.io 0) (.cons (.v 5) .nil))) (E.go _ _ [some s, some (.int m), some (.int k), none, none, some (.lst o (ws.map .int)), some (.int i)]) = .ok _ [some s', some (.int m), some (.int k), none, none, some (.lst false (ws.map .int)), some (.int i)]
          have f1 := cells_isC ws
          cases o <;> simp only [clr_ints, f1, c5, Hm.s_set, Hm.s_for, Hm.as_c, Hm.as_g, Hm.as_v, Hm.as_mv, Hm.as_u, Hm.as_b, Hm.as_ix, Hm.as_sl, Hm.as_ch, Hm.as_tb, Hm.as_ife, Hm.as_tup, Hm.as_lst, Hm.as_call, Hm.as_idx, Hm.as_lc, Hm.as_dE, Hm.as_sv, Hm.as_lr, Hm.go_ch, List.contains_nil, List.contains_cons, Nat.reduceBEq, List.any_cons, List.any_nil, beq_self_eq_true, Hm.go_c, Hm.go_g, Hm.go_v, Hm.go_mv, Hm.go_sv, Hm.go_u, Hm.go_b, Hm.go_ix, Hm.go_sl, Hm.go_tb, Hm.go_ife, Hm.go_tup, Hm.go_lst, Hm.go_call, Hm.go_idx, Hm.go_lc, Hm.go_dE, Hm.go_lr, Hm.tst_an, Hm.tst_or, Hm.tst_nt, Hm.tst_one, Hm.tst_e, Hm.val_an, Hm.val_or, Hm.val_nt, Hm.val_one, Hm.val_e, Hm.eo_no, Hm.eo_yes, Hm.to_no, Hm.to_yes, Hm.es_nil, Hm.es_cons, Hm.as_nil, Hm.as_io, Hm.as_ln, Hm.it_seq, Hm.it_scr, Hm.it_rng, Hm.it_enum, Hm.s_expr, Hm.s_ret, Hm.s_iff, Hm.s_app, Hm.s_put, Hm.s_pass, Hm.s_brk, Hm.s_cnt, Hm.ss_nil, Hm.ss_cons, Hm.kU_1, Hm.kU_2, Hm.kU_3, Hm.kB2_1, Hm.kB2_2, Hm.kB2_3, Hm.kB1_1, Hm.kB1_2, Hm.kB1_3, Hm.kI2_1, Hm.kI2_2, Hm.kI2_3, Hm.kI1_1, Hm.kI1_2, Hm.kI1_3, Hm.kS3_1, Hm.kS3_2, Hm.kS3_3, Hm.kS2_1, Hm.kS2_2, Hm.kS2_3, Hm.kS1_1, Hm.kS1_2, Hm.kS1_3, Hm.kC3_1, Hm.kC3_2, Hm.kC3_3, Hm.kC2'_1, Hm.kC2'_2, Hm.kC2_1, Hm.kC2_2, Hm.kC2_3, Hm.kC1_1, Hm.kC1_2, Hm.kC1_3, Hm.kTb_1, Hm.kTb_2, Hm.kTb_3, Hm.kIf_1, Hm.kIf_2, Hm.kIf_3, Hm.kIf_4, Hm.kTup_1, Hm.kTup_2, Hm.kTup_3, Hm.kLst_1, Hm.kLst_2, Hm.kLst_3, Hm.kCall_1, Hm.kCall_2, Hm.kCall_3, Hm.kX2_1, Hm.kX2_2, Hm.kX2_3, Hm.kX1_1, Hm.kX1_2, Hm.kX1_3, Hm.kL2_1, Hm.kL1_1, Hm.kL1_2, Hm.kL1_3, Hm.kLr_1, Hm.kLr_2, Hm.kLr_3, Hm.kOwn_1, Hm.kOwn_2, Hm.kOwn_3, Hm.kAn_1, Hm.kAn_2, Hm.kAn_3, Hm.kAn_4, Hm.kOr_1, Hm.kOr_2, Hm.kOr_3, Hm.kOr_4, Hm.kNt_1, Hm.kNt_2, Hm.kNt_3, Hm.kTr'_1, Hm.kTr'_2, Hm.kTr_1, Hm.kTr_2, Hm.kTr_3, Hm.kAnV_1, Hm.kAnV_2, Hm.kAnV_3, Hm.kAnV_4, Hm.kOrV_1, Hm.kOrV_2, Hm.kOrV_3, Hm.kOrV_4, Hm.kVl_1, Hm.kVl_2, Hm.kVl_3, Hm.kEo_1, Hm.kEo_2, Hm.kEo_3, Hm.kEs2_1, Hm.kEs2_2, Hm.kEs2_3, Hm.kEs1_1, Hm.kEs1_2, Hm.kEs1_3, Hm.kAs2_1, Hm.kAs2_2, Hm.kAs2_3, Hm.kAs1_1, Hm.kAs1_2, Hm.kAs1_3, Hm.kW_1, Hm.kW_2, Hm.kSq_1, Hm.kSq_2, Hm.kSq_3, Hm.kScr_1, Hm.kScr_2, Hm.kScr_3, Hm.kRg_1, Hm.kRg_2, Hm.kRg_3, Hm.kEn_1, Hm.kEn_2, Hm.kEn_3, Hm.kSet_1, Hm.kSet_2, Hm.kSet_3, Hm.kExp_1, Hm.kExp_2, Hm.kExp_3, Hm.kRet_1, Hm.kRet_2, Hm.kRet_3, Hm.kIff_1, Hm.kIff_2, Hm.kIff_3, Hm.kIff_4, Hm.kAp2_1, Hm.kAp1_1, Hm.kAp1_2, Hm.kAp1_3, Hm.kAp_1, Hm.kPl_1, Hm.kPl_2, Hm.kPd_1, Hm.kPd_2, Hm.kPk_1, Hm.kPk_2, Hm.kP3_1, Hm.kP3_2, Hm.kP2_1, Hm.kP2_2, Hm.kP2_3, Hm.kP1_1, Hm.kP1_2, Hm.kP1_3, Hm.kFor_1, Hm.kFor_2, Hm.kFor_3, Hm.kSeq_1, Hm.kSeq_2, Hm.kSeq_3, Hm.kSeq_4, Hm.kSeq_5, Hm.kSeq_6, Hm.kOp_s, Hm.kOp_n, Hm.kV_1, Hm.kMv_1, Hm.kSv_1, Hm.cr_1, Hm.cr_2, Hm.add_i, Hm.sub_i, Hm.mul_r, Hm.mul_l, Hm.mod_i, Hm.fdiv_i, Hm.lt_i, Hm.le_i, Hm.gt_i, Hm.ge_i, Hm.eq_i, Hm.eq_b, Hm.eq_s, Hm.ne_i, Hm.ne_b, Hm.min_i, Hm.max_i, Hm.isN_, Hm.notN_, Hm.neg_i, Hm.abs_i, Hm.int_i, Hm.int_b, Hm.len_l, Hm.len_t, Hm.ix_l, Hm.ix_t, Hm.tru_b, Hm.tru_i, Hm.own_i, Hm.ownV_v, Hm.lst_, Hm.tup_, Hm.sz_, Hm.join_s, Hm.join_n, Hm.at_0, Hm.at_1, Hm.at_2, Hm.at_3, Hm.at_4, Hm.at_5, Hm.at_6, Hm.at_7, Hm.at_8, Hm.at_9, Hm.at_10, Hm.at_11, Hm.at_12, Hm.at_13, Hm.at_14, Hm.at_15, Hm.at_16, Hm.at_17, Hm.at_18, Hm.at_19, Hm.at_20, Hm.at_21, Hm.at_22, Hm.at_23, Hm.at_24, Hm.at_25, Hm.ix5_0, Hm.ix5_1, Hm.ix5_2, Hm.ix5_3, Hm.ix5_4, Hm.pow_18, Hm.pow_39, Hm.pow_40, held, D.isC, isCs, E.pu, D.isNon, Cn.d, List.length_cons, List.length_nil, List.getElem?_cons_zero, List.getElem?_cons_succ, List.getElem?_nil, List.set_cons_zero, List.set_cons_succ, List.map_cons, List.map_nil, Option.map_some, Option.map_none, decide_eq_true_eq, Bool.true_and, Bool.and_true, Bool.false_and, Bool.and_false, Bool.not_true, Bool.not_false, Bool.or_true, Bool.true_or, Bool.or_false, Bool.false_or, or_true, true_or, or_false, false_or, and_true, true_and, Bool.false_eq_true, reduceCtorEq, not_true_eq_false, not_false_eq_true, Nat.reduceAdd, Nat.reduceLT, Nat.zero_add, eq_self, decide_true, decide_false, ↓reduceIte, Option.isSome_some, Option.isSome_none, ne_eq, Int.reduceNeg, Int.reducePow, Int.reduceLT, Int.reduceLE, Int.reduceEq, Int.reduceSub, Int.reduceAdd, Int.reduceMul, Nat.reducePow, Nat.reduceLeDiff])
        have r3 : (-4611686018427387904 ≤ 1 + j) = True := eq_true (by omega)
        have r4 : (1 + j < 4611686018427387904) = True := eq_true (by omega)
        have e1 : S.go (F (n + 5)) [0] (b__law_numbers.nth (2 + 1)) [some s1, some (.int m), some (.int k), none, none, none, none] = .nx [some s4, some (.int m), some (.int k), some (.lst true (zs.map .int)), none, some (.lst o (ws.map .int)), none] := by
          simp only [b__law_numbers, Ss.nth, h0, h1, h2, r1, r2, r3, r4, w1, c4, e, e2, Hm.s_set, Hm.s_for, Hm.as_c, Hm.as_g, Hm.as_v, Hm.as_mv, Hm.as_u, Hm.as_b, Hm.as_ix, Hm.as_sl, Hm.as_ch, Hm.as_tb, Hm.as_ife, Hm.as_tup, Hm.as_lst, Hm.as_call, Hm.as_idx, Hm.as_lc, Hm.as_dE, Hm.as_sv, Hm.as_lr, Hm.go_ch, List.contains_nil, List.contains_cons, Nat.reduceBEq, List.any_cons, List.any_nil, beq_self_eq_true, Hm.go_c, Hm.go_g, Hm.go_v, Hm.go_mv, Hm.go_sv, Hm.go_u, Hm.go_b, Hm.go_ix, Hm.go_sl, Hm.go_tb, Hm.go_ife, Hm.go_tup, Hm.go_lst, Hm.go_call, Hm.go_idx, Hm.go_lc, Hm.go_dE, Hm.go_lr, Hm.tst_an, Hm.tst_or, Hm.tst_nt, Hm.tst_one, Hm.tst_e, Hm.val_an, Hm.val_or, Hm.val_nt, Hm.val_one, Hm.val_e, Hm.eo_no, Hm.eo_yes, Hm.to_no, Hm.to_yes, Hm.es_nil, Hm.es_cons, Hm.as_nil, Hm.as_io, Hm.as_ln, Hm.it_seq, Hm.it_scr, Hm.it_rng, Hm.it_enum, Hm.s_expr, Hm.s_ret, Hm.s_iff, Hm.s_app, Hm.s_put, Hm.s_pass, Hm.s_brk, Hm.s_cnt, Hm.ss_nil, Hm.ss_cons, Hm.kU_1, Hm.kU_2, Hm.kU_3, Hm.kB2_1, Hm.kB2_2, Hm.kB2_3, Hm.kB1_1, Hm.kB1_2, Hm.kB1_3, Hm.kI2_1, Hm.kI2_2, Hm.kI2_3, Hm.kI1_1, Hm.kI1_2, Hm.kI1_3, Hm.kS3_1, Hm.kS3_2, Hm.kS3_3, Hm.kS2_1, Hm.kS2_2, Hm.kS2_3, Hm.kS1_1, Hm.kS1_2, Hm.kS1_3, Hm.kC3_1, Hm.kC3_2, Hm.kC3_3, Hm.kC2'_1, Hm.kC2'_2, Hm.kC2_1, Hm.kC2_2, Hm.kC2_3, Hm.kC1_1, Hm.kC1_2, Hm.kC1_3, Hm.kTb_1, Hm.kTb_2, Hm.kTb_3, Hm.kIf_1, Hm.kIf_2, Hm.kIf_3, Hm.kIf_4, Hm.kTup_1, Hm.kTup_2, Hm.kTup_3, Hm.kLst_1, Hm.kLst_2, Hm.kLst_3, Hm.kCall_1, Hm.kCall_2, Hm.kCall_3, Hm.kX2_1, Hm.kX2_2, Hm.kX2_3, Hm.kX1_1, Hm.kX1_2, Hm.kX1_3, Hm.kL2_1, Hm.kL1_1, Hm.kL1_2, Hm.kL1_3, Hm.kLr_1, Hm.kLr_2, Hm.kLr_3, Hm.kOwn_1, Hm.kOwn_2, Hm.kOwn_3, Hm.kAn_1, Hm.kAn_2, Hm.kAn_3, Hm.kAn_4, Hm.kOr_1, Hm.kOr_2, Hm.kOr_3, Hm.kOr_4, Hm.kNt_1, Hm.kNt_2, Hm.kNt_3, Hm.kTr'_1, Hm.kTr'_2, Hm.kTr_1, Hm.kTr_2, Hm.kTr_3, Hm.kAnV_1, Hm.kAnV_2, Hm.kAnV_3, Hm.kAnV_4, Hm.kOrV_1, Hm.kOrV_2, Hm.kOrV_3, Hm.kOrV_4, Hm.kVl_1, Hm.kVl_2, Hm.kVl_3, Hm.kEo_1, Hm.kEo_2, Hm.kEo_3, Hm.kEs2_1, Hm.kEs2_2, Hm.kEs2_3, Hm.kEs1_1, Hm.kEs1_2, Hm.kEs1_3, Hm.kAs2_1, Hm.kAs2_2, Hm.kAs2_3, Hm.kAs1_1, Hm.kAs1_2, Hm.kAs1_3, Hm.kW_1, Hm.kW_2, Hm.kSq_1, Hm.kSq_2, Hm.kSq_3, Hm.kScr_1, Hm.kScr_2, Hm.kScr_3, Hm.kRg_1, Hm.kRg_2, Hm.kRg_3, Hm.kEn_1, Hm.kEn_2, Hm.kEn_3, Hm.kSet_1, Hm.kSet_2, Hm.kSet_3, Hm.kExp_1, Hm.kExp_2, Hm.kExp_3, Hm.kRet_1, Hm.kRet_2, Hm.kRet_3, Hm.kIff_1, Hm.kIff_2, Hm.kIff_3, Hm.kIff_4, Hm.kAp2_1, Hm.kAp1_1, Hm.kAp1_2, Hm.kAp1_3, Hm.kAp_1, Hm.kPl_1, Hm.kPl_2, Hm.kPd_1, Hm.kPd_2, Hm.kPk_1, Hm.kPk_2, Hm.kP3_1, Hm.kP3_2, Hm.kP2_1, Hm.kP2_2, Hm.kP2_3, Hm.kP1_1, Hm.kP1_2, Hm.kP1_3, Hm.kFor_1, Hm.kFor_2, Hm.kFor_3, Hm.kSeq_1, Hm.kSeq_2, Hm.kSeq_3, Hm.kSeq_4, Hm.kSeq_5, Hm.kSeq_6, Hm.kOp_s, Hm.kOp_n, Hm.kV_1, Hm.kMv_1, Hm.kSv_1, Hm.cr_1, Hm.cr_2, Hm.add_i, Hm.sub_i, Hm.mul_r, Hm.mul_l, Hm.mod_i, Hm.fdiv_i, Hm.lt_i, Hm.le_i, Hm.gt_i, Hm.ge_i, Hm.eq_i, Hm.eq_b, Hm.eq_s, Hm.ne_i, Hm.ne_b, Hm.min_i, Hm.max_i, Hm.isN_, Hm.notN_, Hm.neg_i, Hm.abs_i, Hm.int_i, Hm.int_b, Hm.len_l, Hm.len_t, Hm.ix_l, Hm.ix_t, Hm.tru_b, Hm.tru_i, Hm.own_i, Hm.ownV_v, Hm.lst_, Hm.tup_, Hm.sz_, Hm.join_s, Hm.join_n, Hm.at_0, Hm.at_1, Hm.at_2, Hm.at_3, Hm.at_4, Hm.at_5, Hm.at_6, Hm.at_7, Hm.at_8, Hm.at_9, Hm.at_10, Hm.at_11, Hm.at_12, Hm.at_13, Hm.at_14, Hm.at_15, Hm.at_16, Hm.at_17, Hm.at_18, Hm.at_19, Hm.at_20, Hm.at_21, Hm.at_22, Hm.at_23, Hm.at_24, Hm.at_25, Hm.ix5_0, Hm.ix5_1, Hm.ix5_2, Hm.ix5_3, Hm.ix5_4, Hm.pow_18, Hm.pow_39, Hm.pow_40, held, D.isC, isCs, E.pu, D.isNon, Cn.d, List.length_cons, List.length_nil, List.getElem?_cons_zero, List.getElem?_cons_succ, List.getElem?_nil, List.set_cons_zero, List.set_cons_succ, List.map_cons, List.map_nil, Option.map_some, Option.map_none, decide_eq_true_eq, Bool.true_and, Bool.and_true, Bool.false_and, Bool.and_false, Bool.not_true, Bool.not_false, Bool.or_true, Bool.true_or, Bool.or_false, Bool.false_or, or_true, true_or, or_false, false_or, and_true, true_and, Bool.false_eq_true, reduceCtorEq, not_true_eq_false, not_false_eq_true, Nat.reduceAdd, Nat.reduceLT, Nat.zero_add, eq_self, decide_true, decide_false, ↓reduceIte, Option.isSome_some, Option.isSome_none, ne_eq, Int.reduceNeg, Int.reducePow, Int.reduceLT, Int.reduceLE, Int.reduceEq, Int.reduceSub, Int.reduceAdd, Int.reduceMul, Nat.reducePow, Nat.reduceLeDiff]
        exact ⟨_, _, _, _, zs, go_step rfl e1, s4h, by omega⟩
theorem flat_rep (k : Nat) (zs : List Int) : (List.replicate k (zs.map D.int)).flatten = ((List.replicate k zs).flatten).map D.int := by
  induction k with
  | zero => rfl
  | succ k ih => rw [List.replicate_succ, List.replicate_succ, List.flatten_cons, List.flatten_cons, List.map_append, ih]
theorem mul_l500 {o : Bool} {zs : List Int} (h : zs.length ≤ 80) : B2.go .mul (.lst o (zs.map .int)) (.int 500) = some (.lst true (((List.replicate 500 zs).flatten).map .int)) := by
  show (if isCs (zs.map D.int) = true ∧ (-(2 ^ 63) ≤ (500 : Int) ∧ (500 : Int) < 2 ^ 63) ∧ (zs.map D.int).length * (500 : Int).toNat ≤ sizeLine then some (D.lst true (List.replicate (500 : Int).toNat (zs.map D.int)).flatten) else none) = _
  rw [if_pos ⟨cells_isC zs, ⟨by decide, by decide⟩, by rw [List.length_map, sz_, show (500 : Int).toNat = 500 from rfl]; omega⟩, show (500 : Int).toNat = 500 from rfl, flat_rep]
theorem sl_l {o : Bool} {zs : List Int} {hi : Int} : ∃ zs' : List Int, slD (.lst o (zs.map .int)) none (some hi) = some (.lst true (zs'.map .int)) ∧ zs'.length ≤ HT.sIx zs.length zs.length (some hi) := by
  refine ⟨(zs.drop (HT.sIx (zs.map D.int).length 0 none)).take (HT.sIx (zs.map D.int).length (zs.map D.int).length (some hi) - HT.sIx (zs.map D.int).length 0 none), ?_, ?_⟩
  · show (if isCs (zs.map D.int) = true then some (D.lst true (Hm.cutD (zs.map D.int) none (some hi))) else none) = _
    rw [if_pos (cells_isC zs), Hm.cutD, ← List.map_drop, ← List.map_take]
  · rw [List.length_take, List.length_map]
    exact Nat.le_trans (Nat.min_le_left _ _) (Nat.sub_le _ _)
theorem sl500 {o : Bool} {zs : List Int} : ∃ zs' : List Int, slD (.lst o (zs.map .int)) none (some 500) = some (.lst true (zs'.map .int)) ∧ zs'.length ≤ 500 := by
  obtain ⟨zs', e, h⟩ := sl_l (o := o) (zs := zs) (hi := 500)
  refine ⟨zs', e, Nat.le_trans h ?_⟩
  rw [show (500 : Int) = ((500 : Nat) : Int) from rfl, HT.sIx_nat]
  exact Nat.min_le_left _ _
theorem num_5 (n : Nat) (s : D) (h : St s) (m : Int) (x2 x4 x5 : Option D) (zs : List Int) (hz : zs.length ≤ 80) : ∃ (s' : D) (zs' : List Int) (ρ : Ev), Ss.go (F (n + 5)) [0] (b__law_numbers.dr 4) [some s, some (.int m), x2, some (.lst true (zs.map .int)), x4, x5, none] = .ret (.lst true (zs'.map .int)) (some s' :: ρ) ∧ St s' ∧ zs'.length ≤ 500 := by
  have c0 := call_take (n := n + 3) h (m := 48) (by decide) [some (.int m), x2, some (.lst true (zs.map .int)), x4, x5, none]
  have s1 := st_ts (n := n + 3) h (m := 48) (by decide)
  have hm := mul_l500 (o := true) (zs := zs) hz
  obtain ⟨zs2, hs, hz2⟩ := sl500 (o := true) (zs := (List.replicate 500 zs).flatten)
  obtain ⟨zs3, e0, hz3⟩ : ∃ zs3 : List Int, S.go (F (n + 5)) [0] (b__law_numbers.nth 4) [some s, some (.int m), x2, some (.lst true (zs.map .int)), x4, x5, none] = .nx [some (ts (n + 3) s 48), some (.int m), x2, some (.lst true (zs3.map .int)), x4, x5, none] ∧ zs3.length ≤ 500 := by
    by_cases h0 : tk (n + 3) s 48 = 0
    · by_cases h1 : 0 < m
      · refine ⟨zs2, ?_, hz2⟩
        simp only [b__law_numbers, Ss.nth, c0, h0, h1, hm, hs, Hm.s_set, Hm.s_for, Hm.as_c, Hm.as_g, Hm.as_v, Hm.as_mv, Hm.as_u, Hm.as_b, Hm.as_ix, Hm.as_sl, Hm.as_ch, Hm.as_tb, Hm.as_ife, Hm.as_tup, Hm.as_lst, Hm.as_call, Hm.as_idx, Hm.as_lc, Hm.as_dE, Hm.as_sv, Hm.as_lr, Hm.go_ch, List.contains_nil, List.contains_cons, Nat.reduceBEq, List.any_cons, List.any_nil, beq_self_eq_true, Hm.go_c, Hm.go_g, Hm.go_v, Hm.go_mv, Hm.go_sv, Hm.go_u, Hm.go_b, Hm.go_ix, Hm.go_sl, Hm.go_tb, Hm.go_ife, Hm.go_tup, Hm.go_lst, Hm.go_call, Hm.go_idx, Hm.go_lc, Hm.go_dE, Hm.go_lr, Hm.tst_an, Hm.tst_or, Hm.tst_nt, Hm.tst_one, Hm.tst_e, Hm.val_an, Hm.val_or, Hm.val_nt, Hm.val_one, Hm.val_e, Hm.eo_no, Hm.eo_yes, Hm.to_no, Hm.to_yes, Hm.es_nil, Hm.es_cons, Hm.as_nil, Hm.as_io, Hm.as_ln, Hm.it_seq, Hm.it_scr, Hm.it_rng, Hm.it_enum, Hm.s_expr, Hm.s_ret, Hm.s_iff, Hm.s_app, Hm.s_put, Hm.s_pass, Hm.s_brk, Hm.s_cnt, Hm.ss_nil, Hm.ss_cons, Hm.kU_1, Hm.kU_2, Hm.kU_3, Hm.kB2_1, Hm.kB2_2, Hm.kB2_3, Hm.kB1_1, Hm.kB1_2, Hm.kB1_3, Hm.kI2_1, Hm.kI2_2, Hm.kI2_3, Hm.kI1_1, Hm.kI1_2, Hm.kI1_3, Hm.kS3_1, Hm.kS3_2, Hm.kS3_3, Hm.kS2_1, Hm.kS2_2, Hm.kS2_3, Hm.kS1_1, Hm.kS1_2, Hm.kS1_3, Hm.kC3_1, Hm.kC3_2, Hm.kC3_3, Hm.kC2'_1, Hm.kC2'_2, Hm.kC2_1, Hm.kC2_2, Hm.kC2_3, Hm.kC1_1, Hm.kC1_2, Hm.kC1_3, Hm.kTb_1, Hm.kTb_2, Hm.kTb_3, Hm.kIf_1, Hm.kIf_2, Hm.kIf_3, Hm.kIf_4, Hm.kTup_1, Hm.kTup_2, Hm.kTup_3, Hm.kLst_1, Hm.kLst_2, Hm.kLst_3, Hm.kCall_1, Hm.kCall_2, Hm.kCall_3, Hm.kX2_1, Hm.kX2_2, Hm.kX2_3, Hm.kX1_1, Hm.kX1_2, Hm.kX1_3, Hm.kL2_1, Hm.kL1_1, Hm.kL1_2, Hm.kL1_3, Hm.kLr_1, Hm.kLr_2, Hm.kLr_3, Hm.kOwn_1, Hm.kOwn_2, Hm.kOwn_3, Hm.kAn_1, Hm.kAn_2, Hm.kAn_3, Hm.kAn_4, Hm.kOr_1, Hm.kOr_2, Hm.kOr_3, Hm.kOr_4, Hm.kNt_1, Hm.kNt_2, Hm.kNt_3, Hm.kTr'_1, Hm.kTr'_2, Hm.kTr_1, Hm.kTr_2, Hm.kTr_3, Hm.kAnV_1, Hm.kAnV_2, Hm.kAnV_3, Hm.kAnV_4, Hm.kOrV_1, Hm.kOrV_2, Hm.kOrV_3, Hm.kOrV_4, Hm.kVl_1, Hm.kVl_2, Hm.kVl_3, Hm.kEo_1, Hm.kEo_2, Hm.kEo_3, Hm.kEs2_1, Hm.kEs2_2, Hm.kEs2_3, Hm.kEs1_1, Hm.kEs1_2, Hm.kEs1_3, Hm.kAs2_1, Hm.kAs2_2, Hm.kAs2_3, Hm.kAs1_1, Hm.kAs1_2, Hm.kAs1_3, Hm.kW_1, Hm.kW_2, Hm.kSq_1, Hm.kSq_2, Hm.kSq_3, Hm.kScr_1, Hm.kScr_2, Hm.kScr_3, Hm.kRg_1, Hm.kRg_2, Hm.kRg_3, Hm.kEn_1, Hm.kEn_2, Hm.kEn_3, Hm.kSet_1, Hm.kSet_2, Hm.kSet_3, Hm.kExp_1, Hm.kExp_2, Hm.kExp_3, Hm.kRet_1, Hm.kRet_2, Hm.kRet_3, Hm.kIff_1, Hm.kIff_2, Hm.kIff_3, Hm.kIff_4, Hm.kAp2_1, Hm.kAp1_1, Hm.kAp1_2, Hm.kAp1_3, Hm.kAp_1, Hm.kPl_1, Hm.kPl_2, Hm.kPd_1, Hm.kPd_2, Hm.kPk_1, Hm.kPk_2, Hm.kP3_1, Hm.kP3_2, Hm.kP2_1, Hm.kP2_2, Hm.kP2_3, Hm.kP1_1, Hm.kP1_2, Hm.kP1_3, Hm.kFor_1, Hm.kFor_2, Hm.kFor_3, Hm.kSeq_1, Hm.kSeq_2, Hm.kSeq_3, Hm.kSeq_4, Hm.kSeq_5, Hm.kSeq_6, Hm.kOp_s, Hm.kOp_n, Hm.kV_1, Hm.kMv_1, Hm.kSv_1, Hm.cr_1, Hm.cr_2, Hm.add_i, Hm.sub_i, Hm.mul_r, Hm.mul_l, Hm.mod_i, Hm.fdiv_i, Hm.lt_i, Hm.le_i, Hm.gt_i, Hm.ge_i, Hm.eq_i, Hm.eq_b, Hm.eq_s, Hm.ne_i, Hm.ne_b, Hm.min_i, Hm.max_i, Hm.isN_, Hm.notN_, Hm.neg_i, Hm.abs_i, Hm.int_i, Hm.int_b, Hm.len_l, Hm.len_t, Hm.ix_l, Hm.ix_t, Hm.tru_b, Hm.tru_i, Hm.own_i, Hm.ownV_v, Hm.lst_, Hm.tup_, Hm.sz_, Hm.join_s, Hm.join_n, Hm.at_0, Hm.at_1, Hm.at_2, Hm.at_3, Hm.at_4, Hm.at_5, Hm.at_6, Hm.at_7, Hm.at_8, Hm.at_9, Hm.at_10, Hm.at_11, Hm.at_12, Hm.at_13, Hm.at_14, Hm.at_15, Hm.at_16, Hm.at_17, Hm.at_18, Hm.at_19, Hm.at_20, Hm.at_21, Hm.at_22, Hm.at_23, Hm.at_24, Hm.at_25, Hm.ix5_0, Hm.ix5_1, Hm.ix5_2, Hm.ix5_3, Hm.ix5_4, Hm.pow_18, Hm.pow_39, Hm.pow_40, held, D.isC, isCs, E.pu, D.isNon, Cn.d, List.length_cons, List.length_nil, List.getElem?_cons_zero, List.getElem?_cons_succ, List.getElem?_nil, List.set_cons_zero, List.set_cons_succ, List.map_cons, List.map_nil, Option.map_some, Option.map_none, decide_eq_true_eq, Bool.true_and, Bool.and_true, Bool.false_and, Bool.and_false, Bool.not_true, Bool.not_false, Bool.or_true, Bool.true_or, Bool.or_false, Bool.false_or, or_true, true_or, or_false, false_or, and_true, true_and, Bool.false_eq_true, reduceCtorEq, not_true_eq_false, not_false_eq_true, Nat.reduceAdd, Nat.reduceLT, Nat.zero_add, eq_self, decide_true, decide_false, ↓reduceIte, Option.isSome_some, Option.isSome_none, ne_eq, Int.reduceNeg, Int.reducePow, Int.reduceLT, Int.reduceLE, Int.reduceEq, Int.reduceSub, Int.reduceAdd, Int.reduceMul, Nat.reducePow, Nat.reduceLeDiff]
      · refine ⟨zs, ?_, by omega⟩
        simp only [b__law_numbers, Ss.nth, c0, h0, h1, Hm.s_set, Hm.s_for, Hm.as_c, Hm.as_g, Hm.as_v, Hm.as_mv, Hm.as_u, Hm.as_b, Hm.as_ix, Hm.as_sl, Hm.as_ch, Hm.as_tb, Hm.as_ife, Hm.as_tup, Hm.as_lst, Hm.as_call, Hm.as_idx, Hm.as_lc, Hm.as_dE, Hm.as_sv, Hm.as_lr, Hm.go_ch, List.contains_nil, List.contains_cons, Nat.reduceBEq, List.any_cons, List.any_nil, beq_self_eq_true, Hm.go_c, Hm.go_g, Hm.go_v, Hm.go_mv, Hm.go_sv, Hm.go_u, Hm.go_b, Hm.go_ix, Hm.go_sl, Hm.go_tb, Hm.go_ife, Hm.go_tup, Hm.go_lst, Hm.go_call, Hm.go_idx, Hm.go_lc, Hm.go_dE, Hm.go_lr, Hm.tst_an, Hm.tst_or, Hm.tst_nt, Hm.tst_one, Hm.tst_e, Hm.val_an, Hm.val_or, Hm.val_nt, Hm.val_one, Hm.val_e, Hm.eo_no, Hm.eo_yes, Hm.to_no, Hm.to_yes, Hm.es_nil, Hm.es_cons, Hm.as_nil, Hm.as_io, Hm.as_ln, Hm.it_seq, Hm.it_scr, Hm.it_rng, Hm.it_enum, Hm.s_expr, Hm.s_ret, Hm.s_iff, Hm.s_app, Hm.s_put, Hm.s_pass, Hm.s_brk, Hm.s_cnt, Hm.ss_nil, Hm.ss_cons, Hm.kU_1, Hm.kU_2, Hm.kU_3, Hm.kB2_1, Hm.kB2_2, Hm.kB2_3, Hm.kB1_1, Hm.kB1_2, Hm.kB1_3, Hm.kI2_1, Hm.kI2_2, Hm.kI2_3, Hm.kI1_1, Hm.kI1_2, Hm.kI1_3, Hm.kS3_1, Hm.kS3_2, Hm.kS3_3, Hm.kS2_1, Hm.kS2_2, Hm.kS2_3, Hm.kS1_1, Hm.kS1_2, Hm.kS1_3, Hm.kC3_1, Hm.kC3_2, Hm.kC3_3, Hm.kC2'_1, Hm.kC2'_2, Hm.kC2_1, Hm.kC2_2, Hm.kC2_3, Hm.kC1_1, Hm.kC1_2, Hm.kC1_3, Hm.kTb_1, Hm.kTb_2, Hm.kTb_3, Hm.kIf_1, Hm.kIf_2, Hm.kIf_3, Hm.kIf_4, Hm.kTup_1, Hm.kTup_2, Hm.kTup_3, Hm.kLst_1, Hm.kLst_2, Hm.kLst_3, Hm.kCall_1, Hm.kCall_2, Hm.kCall_3, Hm.kX2_1, Hm.kX2_2, Hm.kX2_3, Hm.kX1_1, Hm.kX1_2, Hm.kX1_3, Hm.kL2_1, Hm.kL1_1, Hm.kL1_2, Hm.kL1_3, Hm.kLr_1, Hm.kLr_2, Hm.kLr_3, Hm.kOwn_1, Hm.kOwn_2, Hm.kOwn_3, Hm.kAn_1, Hm.kAn_2, Hm.kAn_3, Hm.kAn_4, Hm.kOr_1, Hm.kOr_2, Hm.kOr_3, Hm.kOr_4, Hm.kNt_1, Hm.kNt_2, Hm.kNt_3, Hm.kTr'_1, Hm.kTr'_2, Hm.kTr_1, Hm.kTr_2, Hm.kTr_3, Hm.kAnV_1, Hm.kAnV_2, Hm.kAnV_3, Hm.kAnV_4, Hm.kOrV_1, Hm.kOrV_2, Hm.kOrV_3, Hm.kOrV_4, Hm.kVl_1, Hm.kVl_2, Hm.kVl_3, Hm.kEo_1, Hm.kEo_2, Hm.kEo_3, Hm.kEs2_1, Hm.kEs2_2, Hm.kEs2_3, Hm.kEs1_1, Hm.kEs1_2, Hm.kEs1_3, Hm.kAs2_1, Hm.kAs2_2, Hm.kAs2_3, Hm.kAs1_1, Hm.kAs1_2, Hm.kAs1_3, Hm.kW_1, Hm.kW_2, Hm.kSq_1, Hm.kSq_2, Hm.kSq_3, Hm.kScr_1, Hm.kScr_2, Hm.kScr_3, Hm.kRg_1, Hm.kRg_2, Hm.kRg_3, Hm.kEn_1, Hm.kEn_2, Hm.kEn_3, Hm.kSet_1, Hm.kSet_2, Hm.kSet_3, Hm.kExp_1, Hm.kExp_2, Hm.kExp_3, Hm.kRet_1, Hm.kRet_2, Hm.kRet_3, Hm.kIff_1, Hm.kIff_2, Hm.kIff_3, Hm.kIff_4, Hm.kAp2_1, Hm.kAp1_1, Hm.kAp1_2, Hm.kAp1_3, Hm.kAp_1, Hm.kPl_1, Hm.kPl_2, Hm.kPd_1, Hm.kPd_2, Hm.kPk_1, Hm.kPk_2, Hm.kP3_1, Hm.kP3_2, Hm.kP2_1, Hm.kP2_2, Hm.kP2_3, Hm.kP1_1, Hm.kP1_2, Hm.kP1_3, Hm.kFor_1, Hm.kFor_2, Hm.kFor_3, Hm.kSeq_1, Hm.kSeq_2, Hm.kSeq_3, Hm.kSeq_4, Hm.kSeq_5, Hm.kSeq_6, Hm.kOp_s, Hm.kOp_n, Hm.kV_1, Hm.kMv_1, Hm.kSv_1, Hm.cr_1, Hm.cr_2, Hm.add_i, Hm.sub_i, Hm.mul_r, Hm.mul_l, Hm.mod_i, Hm.fdiv_i, Hm.lt_i, Hm.le_i, Hm.gt_i, Hm.ge_i, Hm.eq_i, Hm.eq_b, Hm.eq_s, Hm.ne_i, Hm.ne_b, Hm.min_i, Hm.max_i, Hm.isN_, Hm.notN_, Hm.neg_i, Hm.abs_i, Hm.int_i, Hm.int_b, Hm.len_l, Hm.len_t, Hm.ix_l, Hm.ix_t, Hm.tru_b, Hm.tru_i, Hm.own_i, Hm.ownV_v, Hm.lst_, Hm.tup_, Hm.sz_, Hm.join_s, Hm.join_n, Hm.at_0, Hm.at_1, Hm.at_2, Hm.at_3, Hm.at_4, Hm.at_5, Hm.at_6, Hm.at_7, Hm.at_8, Hm.at_9, Hm.at_10, Hm.at_11, Hm.at_12, Hm.at_13, Hm.at_14, Hm.at_15, Hm.at_16, Hm.at_17, Hm.at_18, Hm.at_19, Hm.at_20, Hm.at_21, Hm.at_22, Hm.at_23, Hm.at_24, Hm.at_25, Hm.ix5_0, Hm.ix5_1, Hm.ix5_2, Hm.ix5_3, Hm.ix5_4, Hm.pow_18, Hm.pow_39, Hm.pow_40, held, D.isC, isCs, E.pu, D.isNon, Cn.d, List.length_cons, List.length_nil, List.getElem?_cons_zero, List.getElem?_cons_succ, List.getElem?_nil, List.set_cons_zero, List.set_cons_succ, List.map_cons, List.map_nil, Option.map_some, Option.map_none, decide_eq_true_eq, Bool.true_and, Bool.and_true, Bool.false_and, Bool.and_false, Bool.not_true, Bool.not_false, Bool.or_true, Bool.true_or, Bool.or_false, Bool.false_or, or_true, true_or, or_false, false_or, and_true, true_and, Bool.false_eq_true, reduceCtorEq, not_true_eq_false, not_false_eq_true, Nat.reduceAdd, Nat.reduceLT, Nat.zero_add, eq_self, decide_true, decide_false, ↓reduceIte, Option.isSome_some, Option.isSome_none, ne_eq, Int.reduceNeg, Int.reducePow, Int.reduceLT, Int.reduceLE, Int.reduceEq, Int.reduceSub, Int.reduceAdd, Int.reduceMul, Nat.reducePow, Nat.reduceLeDiff]
    · refine ⟨zs, ?_, by omega⟩
      simp only [b__law_numbers, Ss.nth, c0, h0, Hm.s_set, Hm.s_for, Hm.as_c, Hm.as_g, Hm.as_v, Hm.as_mv, Hm.as_u, Hm.as_b, Hm.as_ix, Hm.as_sl, Hm.as_ch, Hm.as_tb, Hm.as_ife, Hm.as_tup, Hm.as_lst, Hm.as_call, Hm.as_idx, Hm.as_lc, Hm.as_dE, Hm.as_sv, Hm.as_lr, Hm.go_ch, List.contains_nil, List.contains_cons, Nat.reduceBEq, List.any_cons, List.any_nil, beq_self_eq_true, Hm.go_c, Hm.go_g, Hm.go_v, Hm.go_mv, Hm.go_sv, Hm.go_u, Hm.go_b, Hm.go_ix, Hm.go_sl, Hm.go_tb, Hm.go_ife, Hm.go_tup, Hm.go_lst, Hm.go_call, Hm.go_idx, Hm.go_lc, Hm.go_dE, Hm.go_lr, Hm.tst_an, Hm.tst_or, Hm.tst_nt, Hm.tst_one, Hm.tst_e, Hm.val_an, Hm.val_or, Hm.val_nt, Hm.val_one, Hm.val_e, Hm.eo_no, Hm.eo_yes, Hm.to_no, Hm.to_yes, Hm.es_nil, Hm.es_cons, Hm.as_nil, Hm.as_io, Hm.as_ln, Hm.it_seq, Hm.it_scr, Hm.it_rng, Hm.it_enum, Hm.s_expr, Hm.s_ret, Hm.s_iff, Hm.s_app, Hm.s_put, Hm.s_pass, Hm.s_brk, Hm.s_cnt, Hm.ss_nil, Hm.ss_cons, Hm.kU_1, Hm.kU_2, Hm.kU_3, Hm.kB2_1, Hm.kB2_2, Hm.kB2_3, Hm.kB1_1, Hm.kB1_2, Hm.kB1_3, Hm.kI2_1, Hm.kI2_2, Hm.kI2_3, Hm.kI1_1, Hm.kI1_2, Hm.kI1_3, Hm.kS3_1, Hm.kS3_2, Hm.kS3_3, Hm.kS2_1, Hm.kS2_2, Hm.kS2_3, Hm.kS1_1, Hm.kS1_2, Hm.kS1_3, Hm.kC3_1, Hm.kC3_2, Hm.kC3_3, Hm.kC2'_1, Hm.kC2'_2, Hm.kC2_1, Hm.kC2_2, Hm.kC2_3, Hm.kC1_1, Hm.kC1_2, Hm.kC1_3, Hm.kTb_1, Hm.kTb_2, Hm.kTb_3, Hm.kIf_1, Hm.kIf_2, Hm.kIf_3, Hm.kIf_4, Hm.kTup_1, Hm.kTup_2, Hm.kTup_3, Hm.kLst_1, Hm.kLst_2, Hm.kLst_3, Hm.kCall_1, Hm.kCall_2, Hm.kCall_3, Hm.kX2_1, Hm.kX2_2, Hm.kX2_3, Hm.kX1_1, Hm.kX1_2, Hm.kX1_3, Hm.kL2_1, Hm.kL1_1, Hm.kL1_2, Hm.kL1_3, Hm.kLr_1, Hm.kLr_2, Hm.kLr_3, Hm.kOwn_1, Hm.kOwn_2, Hm.kOwn_3, Hm.kAn_1, Hm.kAn_2, Hm.kAn_3, Hm.kAn_4, Hm.kOr_1, Hm.kOr_2, Hm.kOr_3, Hm.kOr_4, Hm.kNt_1, Hm.kNt_2, Hm.kNt_3, Hm.kTr'_1, Hm.kTr'_2, Hm.kTr_1, Hm.kTr_2, Hm.kTr_3, Hm.kAnV_1, Hm.kAnV_2, Hm.kAnV_3, Hm.kAnV_4, Hm.kOrV_1, Hm.kOrV_2, Hm.kOrV_3, Hm.kOrV_4, Hm.kVl_1, Hm.kVl_2, Hm.kVl_3, Hm.kEo_1, Hm.kEo_2, Hm.kEo_3, Hm.kEs2_1, Hm.kEs2_2, Hm.kEs2_3, Hm.kEs1_1, Hm.kEs1_2, Hm.kEs1_3, Hm.kAs2_1, Hm.kAs2_2, Hm.kAs2_3, Hm.kAs1_1, Hm.kAs1_2, Hm.kAs1_3, Hm.kW_1, Hm.kW_2, Hm.kSq_1, Hm.kSq_2, Hm.kSq_3, Hm.kScr_1, Hm.kScr_2, Hm.kScr_3, Hm.kRg_1, Hm.kRg_2, Hm.kRg_3, Hm.kEn_1, Hm.kEn_2, Hm.kEn_3, Hm.kSet_1, Hm.kSet_2, Hm.kSet_3, Hm.kExp_1, Hm.kExp_2, Hm.kExp_3, Hm.kRet_1, Hm.kRet_2, Hm.kRet_3, Hm.kIff_1, Hm.kIff_2, Hm.kIff_3, Hm.kIff_4, Hm.kAp2_1, Hm.kAp1_1, Hm.kAp1_2, Hm.kAp1_3, Hm.kAp_1, Hm.kPl_1, Hm.kPl_2, Hm.kPd_1, Hm.kPd_2, Hm.kPk_1, Hm.kPk_2, Hm.kP3_1, Hm.kP3_2, Hm.kP2_1, Hm.kP2_2, Hm.kP2_3, Hm.kP1_1, Hm.kP1_2, Hm.kP1_3, Hm.kFor_1, Hm.kFor_2, Hm.kFor_3, Hm.kSeq_1, Hm.kSeq_2, Hm.kSeq_3, Hm.kSeq_4, Hm.kSeq_5, Hm.kSeq_6, Hm.kOp_s, Hm.kOp_n, Hm.kV_1, Hm.kMv_1, Hm.kSv_1, Hm.cr_1, Hm.cr_2, Hm.add_i, Hm.sub_i, Hm.mul_r, Hm.mul_l, Hm.mod_i, Hm.fdiv_i, Hm.lt_i, Hm.le_i, Hm.gt_i, Hm.ge_i, Hm.eq_i, Hm.eq_b, Hm.eq_s, Hm.ne_i, Hm.ne_b, Hm.min_i, Hm.max_i, Hm.isN_, Hm.notN_, Hm.neg_i, Hm.abs_i, Hm.int_i, Hm.int_b, Hm.len_l, Hm.len_t, Hm.ix_l, Hm.ix_t, Hm.tru_b, Hm.tru_i, Hm.own_i, Hm.ownV_v, Hm.lst_, Hm.tup_, Hm.sz_, Hm.join_s, Hm.join_n, Hm.at_0, Hm.at_1, Hm.at_2, Hm.at_3, Hm.at_4, Hm.at_5, Hm.at_6, Hm.at_7, Hm.at_8, Hm.at_9, Hm.at_10, Hm.at_11, Hm.at_12, Hm.at_13, Hm.at_14, Hm.at_15, Hm.at_16, Hm.at_17, Hm.at_18, Hm.at_19, Hm.at_20, Hm.at_21, Hm.at_22, Hm.at_23, Hm.at_24, Hm.at_25, Hm.ix5_0, Hm.ix5_1, Hm.ix5_2, Hm.ix5_3, Hm.ix5_4, Hm.pow_18, Hm.pow_39, Hm.pow_40, held, D.isC, isCs, E.pu, D.isNon, Cn.d, List.length_cons, List.length_nil, List.getElem?_cons_zero, List.getElem?_cons_succ, List.getElem?_nil, List.set_cons_zero, List.set_cons_succ, List.map_cons, List.map_nil, Option.map_some, Option.map_none, decide_eq_true_eq, Bool.true_and, Bool.and_true, Bool.false_and, Bool.and_false, Bool.not_true, Bool.not_false, Bool.or_true, Bool.true_or, Bool.or_false, Bool.false_or, or_true, true_or, or_false, false_or, and_true, true_and, Bool.false_eq_true, reduceCtorEq, not_true_eq_false, not_false_eq_true, Nat.reduceAdd, Nat.reduceLT, Nat.zero_add, eq_self, decide_true, decide_false, ↓reduceIte, Option.isSome_some, Option.isSome_none, ne_eq, Int.reduceNeg, Int.reducePow, Int.reduceLT, Int.reduceLE, Int.reduceEq, Int.reduceSub, Int.reduceAdd, Int.reduceMul, Nat.reducePow, Nat.reduceLeDiff]
  rw [go_step rfl e0]
  have c1 := call_take (n := n + 3) s1 (m := 6) (by decide) [some (.int m), x2, some (.lst true (zs3.map .int)), x4, x5, none]
  have s2 := st_ts (n := n + 3) s1 (m := 6) (by decide)
  generalize ts (n + 3) s 48 = s' at *
  by_cases h0 : tk (n + 3) s' 6 = 0
  · have hs := sorted_l (o := true) (zs := zs3)
    have e1 : S.go (F (n + 5)) [0] (b__law_numbers.nth (4 + 1)) [some s', some (.int m), x2, some (.lst true (zs3.map .int)), x4, x5, none] = .ret (.lst true ((srtI zs3).map .int)) [some (ts (n + 3) s' 6), some (.int m), x2, some (.lst true (zs3.map .int)), x4, x5, none] := by
      simp only [b__law_numbers, Ss.nth, c1, h0, hs, Hm.s_set, Hm.s_for, Hm.as_c, Hm.as_g, Hm.as_v, Hm.as_mv, Hm.as_u, Hm.as_b, Hm.as_ix, Hm.as_sl, Hm.as_ch, Hm.as_tb, Hm.as_ife, Hm.as_tup, Hm.as_lst, Hm.as_call, Hm.as_idx, Hm.as_lc, Hm.as_dE, Hm.as_sv, Hm.as_lr, Hm.go_ch, List.contains_nil, List.contains_cons, Nat.reduceBEq, List.any_cons, List.any_nil, beq_self_eq_true, Hm.go_c, Hm.go_g, Hm.go_v, Hm.go_mv, Hm.go_sv, Hm.go_u, Hm.go_b, Hm.go_ix, Hm.go_sl, Hm.go_tb, Hm.go_ife, Hm.go_tup, Hm.go_lst, Hm.go_call, Hm.go_idx, Hm.go_lc, Hm.go_dE, Hm.go_lr, Hm.tst_an, Hm.tst_or, Hm.tst_nt, Hm.tst_one, Hm.tst_e, Hm.val_an, Hm.val_or, Hm.val_nt, Hm.val_one, Hm.val_e, Hm.eo_no, Hm.eo_yes, Hm.to_no, Hm.to_yes, Hm.es_nil, Hm.es_cons, Hm.as_nil, Hm.as_io, Hm.as_ln, Hm.it_seq, Hm.it_scr, Hm.it_rng, Hm.it_enum, Hm.s_expr, Hm.s_ret, Hm.s_iff, Hm.s_app, Hm.s_put, Hm.s_pass, Hm.s_brk, Hm.s_cnt, Hm.ss_nil, Hm.ss_cons, Hm.kU_1, Hm.kU_2, Hm.kU_3, Hm.kB2_1, Hm.kB2_2, Hm.kB2_3, Hm.kB1_1, Hm.kB1_2, Hm.kB1_3, Hm.kI2_1, Hm.kI2_2, Hm.kI2_3, Hm.kI1_1, Hm.kI1_2, Hm.kI1_3, Hm.kS3_1, Hm.kS3_2, Hm.kS3_3, Hm.kS2_1, Hm.kS2_2, Hm.kS2_3, Hm.kS1_1, Hm.kS1_2, Hm.kS1_3, Hm.kC3_1, Hm.kC3_2, Hm.kC3_3, Hm.kC2'_1, Hm.kC2'_2, Hm.kC2_1, Hm.kC2_2, Hm.kC2_3, Hm.kC1_1, Hm.kC1_2, Hm.kC1_3, Hm.kTb_1, Hm.kTb_2, Hm.kTb_3, Hm.kIf_1, Hm.kIf_2, Hm.kIf_3, Hm.kIf_4, Hm.kTup_1, Hm.kTup_2, Hm.kTup_3, Hm.kLst_1, Hm.kLst_2, Hm.kLst_3, Hm.kCall_1, Hm.kCall_2, Hm.kCall_3, Hm.kX2_1, Hm.kX2_2, Hm.kX2_3, Hm.kX1_1, Hm.kX1_2, Hm.kX1_3, Hm.kL2_1, Hm.kL1_1, Hm.kL1_2, Hm.kL1_3, Hm.kLr_1, Hm.kLr_2, Hm.kLr_3, Hm.kOwn_1, Hm.kOwn_2, Hm.kOwn_3, Hm.kAn_1, Hm.kAn_2, Hm.kAn_3, Hm.kAn_4, Hm.kOr_1, Hm.kOr_2, Hm.kOr_3, Hm.kOr_4, Hm.kNt_1, Hm.kNt_2, Hm.kNt_3, Hm.kTr'_1, Hm.kTr'_2, Hm.kTr_1, Hm.kTr_2, Hm.kTr_3, Hm.kAnV_1, Hm.kAnV_2, Hm.kAnV_3, Hm.kAnV_4, Hm.kOrV_1, Hm.kOrV_2, Hm.kOrV_3, Hm.kOrV_4, Hm.kVl_1, Hm.kVl_2, Hm.kVl_3, Hm.kEo_1, Hm.kEo_2, Hm.kEo_3, Hm.kEs2_1, Hm.kEs2_2, Hm.kEs2_3, Hm.kEs1_1, Hm.kEs1_2, Hm.kEs1_3, Hm.kAs2_1, Hm.kAs2_2, Hm.kAs2_3, Hm.kAs1_1, Hm.kAs1_2, Hm.kAs1_3, Hm.kW_1, Hm.kW_2, Hm.kSq_1, Hm.kSq_2, Hm.kSq_3, Hm.kScr_1, Hm.kScr_2, Hm.kScr_3, Hm.kRg_1, Hm.kRg_2, Hm.kRg_3, Hm.kEn_1, Hm.kEn_2, Hm.kEn_3, Hm.kSet_1, Hm.kSet_2, Hm.kSet_3, Hm.kExp_1, Hm.kExp_2, Hm.kExp_3, Hm.kRet_1, Hm.kRet_2, Hm.kRet_3, Hm.kIff_1, Hm.kIff_2, Hm.kIff_3, Hm.kIff_4, Hm.kAp2_1, Hm.kAp1_1, Hm.kAp1_2, Hm.kAp1_3, Hm.kAp_1, Hm.kPl_1, Hm.kPl_2, Hm.kPd_1, Hm.kPd_2, Hm.kPk_1, Hm.kPk_2, Hm.kP3_1, Hm.kP3_2, Hm.kP2_1, Hm.kP2_2, Hm.kP2_3, Hm.kP1_1, Hm.kP1_2, Hm.kP1_3, Hm.kFor_1, Hm.kFor_2, Hm.kFor_3, Hm.kSeq_1, Hm.kSeq_2, Hm.kSeq_3, Hm.kSeq_4, Hm.kSeq_5, Hm.kSeq_6, Hm.kOp_s, Hm.kOp_n, Hm.kV_1, Hm.kMv_1, Hm.kSv_1, Hm.cr_1, Hm.cr_2, Hm.add_i, Hm.sub_i, Hm.mul_r, Hm.mul_l, Hm.mod_i, Hm.fdiv_i, Hm.lt_i, Hm.le_i, Hm.gt_i, Hm.ge_i, Hm.eq_i, Hm.eq_b, Hm.eq_s, Hm.ne_i, Hm.ne_b, Hm.min_i, Hm.max_i, Hm.isN_, Hm.notN_, Hm.neg_i, Hm.abs_i, Hm.int_i, Hm.int_b, Hm.len_l, Hm.len_t, Hm.ix_l, Hm.ix_t, Hm.tru_b, Hm.tru_i, Hm.own_i, Hm.ownV_v, Hm.lst_, Hm.tup_, Hm.sz_, Hm.join_s, Hm.join_n, Hm.at_0, Hm.at_1, Hm.at_2, Hm.at_3, Hm.at_4, Hm.at_5, Hm.at_6, Hm.at_7, Hm.at_8, Hm.at_9, Hm.at_10, Hm.at_11, Hm.at_12, Hm.at_13, Hm.at_14, Hm.at_15, Hm.at_16, Hm.at_17, Hm.at_18, Hm.at_19, Hm.at_20, Hm.at_21, Hm.at_22, Hm.at_23, Hm.at_24, Hm.at_25, Hm.ix5_0, Hm.ix5_1, Hm.ix5_2, Hm.ix5_3, Hm.ix5_4, Hm.pow_18, Hm.pow_39, Hm.pow_40, held, D.isC, isCs, E.pu, D.isNon, Cn.d, List.length_cons, List.length_nil, List.getElem?_cons_zero, List.getElem?_cons_succ, List.getElem?_nil, List.set_cons_zero, List.set_cons_succ, List.map_cons, List.map_nil, Option.map_some, Option.map_none, decide_eq_true_eq, Bool.true_and, Bool.and_true, Bool.false_and, Bool.and_false, Bool.not_true, Bool.not_false, Bool.or_true, Bool.true_or, Bool.or_false, Bool.false_or, or_true, true_or, or_false, false_or, and_true, true_and, Bool.false_eq_true, reduceCtorEq, not_true_eq_false, not_false_eq_true, Nat.reduceAdd, Nat.reduceLT, Nat.zero_add, eq_self, decide_true, decide_false, ↓reduceIte, Option.isSome_some, Option.isSome_none, ne_eq, Int.reduceNeg, Int.reducePow, Int.reduceLT, Int.reduceLE, Int.reduceEq, Int.reduceSub, Int.reduceAdd, Int.reduceMul, Nat.reducePow, Nat.reduceLeDiff]
    exact ⟨_, _, _, go_ret rfl e1, s2, by rw [show (srtI zs3).length = zs3.length from List.length_mergeSort ..]; exact hz3⟩
  · have e1 : S.go (F (n + 5)) [0] (b__law_numbers.nth (4 + 1)) [some s', some (.int m), x2, some (.lst true (zs3.map .int)), x4, x5, none] = .nx [some (ts (n + 3) s' 6), some (.int m), x2, some (.lst true (zs3.map .int)), x4, x5, none] := by
      simp only [b__law_numbers, Ss.nth, c1, h0, Hm.s_set, Hm.s_for, Hm.as_c, Hm.as_g, Hm.as_v, Hm.as_mv, Hm.as_u, Hm.as_b, Hm.as_ix, Hm.as_sl, Hm.as_ch, Hm.as_tb, Hm.as_ife, Hm.as_tup, Hm.as_lst, Hm.as_call, Hm.as_idx, Hm.as_lc, Hm.as_dE, Hm.as_sv, Hm.as_lr, Hm.go_ch, List.contains_nil, List.contains_cons, Nat.reduceBEq, List.any_cons, List.any_nil, beq_self_eq_true, Hm.go_c, Hm.go_g, Hm.go_v, Hm.go_mv, Hm.go_sv, Hm.go_u, Hm.go_b, Hm.go_ix, Hm.go_sl, Hm.go_tb, Hm.go_ife, Hm.go_tup, Hm.go_lst, Hm.go_call, Hm.go_idx, Hm.go_lc, Hm.go_dE, Hm.go_lr, Hm.tst_an, Hm.tst_or, Hm.tst_nt, Hm.tst_one, Hm.tst_e, Hm.val_an, Hm.val_or, Hm.val_nt, Hm.val_one, Hm.val_e, Hm.eo_no, Hm.eo_yes, Hm.to_no, Hm.to_yes, Hm.es_nil, Hm.es_cons, Hm.as_nil, Hm.as_io, Hm.as_ln, Hm.it_seq, Hm.it_scr, Hm.it_rng, Hm.it_enum, Hm.s_expr, Hm.s_ret, Hm.s_iff, Hm.s_app, Hm.s_put, Hm.s_pass, Hm.s_brk, Hm.s_cnt, Hm.ss_nil, Hm.ss_cons, Hm.kU_1, Hm.kU_2, Hm.kU_3, Hm.kB2_1, Hm.kB2_2, Hm.kB2_3, Hm.kB1_1, Hm.kB1_2, Hm.kB1_3, Hm.kI2_1, Hm.kI2_2, Hm.kI2_3, Hm.kI1_1, Hm.kI1_2, Hm.kI1_3, Hm.kS3_1, Hm.kS3_2, Hm.kS3_3, Hm.kS2_1, Hm.kS2_2, Hm.kS2_3, Hm.kS1_1, Hm.kS1_2, Hm.kS1_3, Hm.kC3_1, Hm.kC3_2, Hm.kC3_3, Hm.kC2'_1, Hm.kC2'_2, Hm.kC2_1, Hm.kC2_2, Hm.kC2_3, Hm.kC1_1, Hm.kC1_2, Hm.kC1_3, Hm.kTb_1, Hm.kTb_2, Hm.kTb_3, Hm.kIf_1, Hm.kIf_2, Hm.kIf_3, Hm.kIf_4, Hm.kTup_1, Hm.kTup_2, Hm.kTup_3, Hm.kLst_1, Hm.kLst_2, Hm.kLst_3, Hm.kCall_1, Hm.kCall_2, Hm.kCall_3, Hm.kX2_1, Hm.kX2_2, Hm.kX2_3, Hm.kX1_1, Hm.kX1_2, Hm.kX1_3, Hm.kL2_1, Hm.kL1_1, Hm.kL1_2, Hm.kL1_3, Hm.kLr_1, Hm.kLr_2, Hm.kLr_3, Hm.kOwn_1, Hm.kOwn_2, Hm.kOwn_3, Hm.kAn_1, Hm.kAn_2, Hm.kAn_3, Hm.kAn_4, Hm.kOr_1, Hm.kOr_2, Hm.kOr_3, Hm.kOr_4, Hm.kNt_1, Hm.kNt_2, Hm.kNt_3, Hm.kTr'_1, Hm.kTr'_2, Hm.kTr_1, Hm.kTr_2, Hm.kTr_3, Hm.kAnV_1, Hm.kAnV_2, Hm.kAnV_3, Hm.kAnV_4, Hm.kOrV_1, Hm.kOrV_2, Hm.kOrV_3, Hm.kOrV_4, Hm.kVl_1, Hm.kVl_2, Hm.kVl_3, Hm.kEo_1, Hm.kEo_2, Hm.kEo_3, Hm.kEs2_1, Hm.kEs2_2, Hm.kEs2_3, Hm.kEs1_1, Hm.kEs1_2, Hm.kEs1_3, Hm.kAs2_1, Hm.kAs2_2, Hm.kAs2_3, Hm.kAs1_1, Hm.kAs1_2, Hm.kAs1_3, Hm.kW_1, Hm.kW_2, Hm.kSq_1, Hm.kSq_2, Hm.kSq_3, Hm.kScr_1, Hm.kScr_2, Hm.kScr_3, Hm.kRg_1, Hm.kRg_2, Hm.kRg_3, Hm.kEn_1, Hm.kEn_2, Hm.kEn_3, Hm.kSet_1, Hm.kSet_2, Hm.kSet_3, Hm.kExp_1, Hm.kExp_2, Hm.kExp_3, Hm.kRet_1, Hm.kRet_2, Hm.kRet_3, Hm.kIff_1, Hm.kIff_2, Hm.kIff_3, Hm.kIff_4, Hm.kAp2_1, Hm.kAp1_1, Hm.kAp1_2, Hm.kAp1_3, Hm.kAp_1, Hm.kPl_1, Hm.kPl_2, Hm.kPd_1, Hm.kPd_2, Hm.kPk_1, Hm.kPk_2, Hm.kP3_1, Hm.kP3_2, Hm.kP2_1, Hm.kP2_2, Hm.kP2_3, Hm.kP1_1, Hm.kP1_2, Hm.kP1_3, Hm.kFor_1, Hm.kFor_2, Hm.kFor_3, Hm.kSeq_1, Hm.kSeq_2, Hm.kSeq_3, Hm.kSeq_4, Hm.kSeq_5, Hm.kSeq_6, Hm.kOp_s, Hm.kOp_n, Hm.kV_1, Hm.kMv_1, Hm.kSv_1, Hm.cr_1, Hm.cr_2, Hm.add_i, Hm.sub_i, Hm.mul_r, Hm.mul_l, Hm.mod_i, Hm.fdiv_i, Hm.lt_i, Hm.le_i, Hm.gt_i, Hm.ge_i, Hm.eq_i, Hm.eq_b, Hm.eq_s, Hm.ne_i, Hm.ne_b, Hm.min_i, Hm.max_i, Hm.isN_, Hm.notN_, Hm.neg_i, Hm.abs_i, Hm.int_i, Hm.int_b, Hm.len_l, Hm.len_t, Hm.ix_l, Hm.ix_t, Hm.tru_b, Hm.tru_i, Hm.own_i, Hm.ownV_v, Hm.lst_, Hm.tup_, Hm.sz_, Hm.join_s, Hm.join_n, Hm.at_0, Hm.at_1, Hm.at_2, Hm.at_3, Hm.at_4, Hm.at_5, Hm.at_6, Hm.at_7, Hm.at_8, Hm.at_9, Hm.at_10, Hm.at_11, Hm.at_12, Hm.at_13, Hm.at_14, Hm.at_15, Hm.at_16, Hm.at_17, Hm.at_18, Hm.at_19, Hm.at_20, Hm.at_21, Hm.at_22, Hm.at_23, Hm.at_24, Hm.at_25, Hm.ix5_0, Hm.ix5_1, Hm.ix5_2, Hm.ix5_3, Hm.ix5_4, Hm.pow_18, Hm.pow_39, Hm.pow_40, held, D.isC, isCs, E.pu, D.isNon, Cn.d, List.length_cons, List.length_nil, List.getElem?_cons_zero, List.getElem?_cons_succ, List.getElem?_nil, List.set_cons_zero, List.set_cons_succ, List.map_cons, List.map_nil, Option.map_some, Option.map_none, decide_eq_true_eq, Bool.true_and, Bool.and_true, Bool.false_and, Bool.and_false, Bool.not_true, Bool.not_false, Bool.or_true, Bool.true_or, Bool.or_false, Bool.false_or, or_true, true_or, or_false, false_or, and_true, true_and, Bool.false_eq_true, reduceCtorEq, not_true_eq_false, not_false_eq_true, Nat.reduceAdd, Nat.reduceLT, Nat.zero_add, eq_self, decide_true, decide_false, ↓reduceIte, Option.isSome_some, Option.isSome_none, ne_eq, Int.reduceNeg, Int.reducePow, Int.reduceLT, Int.reduceLE, Int.reduceEq, Int.reduceSub, Int.reduceAdd, Int.reduceMul, Nat.reducePow, Nat.reduceLeDiff]
    rw [go_step rfl e1]
    have e2 : S.go (F (n + 5)) [0] (b__law_numbers.nth (4 + 1 + 1)) [some (ts (n + 3) s' 6), some (.int m), x2, some (.lst true (zs3.map .int)), x4, x5, none] = .ret (.lst true (zs3.map .int)) [some (ts (n + 3) s' 6), some (.int m), x2, none, x4, x5, none] := by
      simp only [b__law_numbers, Ss.nth, Hm.s_set, Hm.s_for, Hm.as_c, Hm.as_g, Hm.as_v, Hm.as_mv, Hm.as_u, Hm.as_b, Hm.as_ix, Hm.as_sl, Hm.as_ch, Hm.as_tb, Hm.as_ife, Hm.as_tup, Hm.as_lst, Hm.as_call, Hm.as_idx, Hm.as_lc, Hm.as_dE, Hm.as_sv, Hm.as_lr, Hm.go_ch, List.contains_nil, List.contains_cons, Nat.reduceBEq, List.any_cons, List.any_nil, beq_self_eq_true, Hm.go_c, Hm.go_g, Hm.go_v, Hm.go_mv, Hm.go_sv, Hm.go_u, Hm.go_b, Hm.go_ix, Hm.go_sl, Hm.go_tb, Hm.go_ife, Hm.go_tup, Hm.go_lst, Hm.go_call, Hm.go_idx, Hm.go_lc, Hm.go_dE, Hm.go_lr, Hm.tst_an, Hm.tst_or, Hm.tst_nt, Hm.tst_one, Hm.tst_e, Hm.val_an, Hm.val_or, Hm.val_nt, Hm.val_one, Hm.val_e, Hm.eo_no, Hm.eo_yes, Hm.to_no, Hm.to_yes, Hm.es_nil, Hm.es_cons, Hm.as_nil, Hm.as_io, Hm.as_ln, Hm.it_seq, Hm.it_scr, Hm.it_rng, Hm.it_enum, Hm.s_expr, Hm.s_ret, Hm.s_iff, Hm.s_app, Hm.s_put, Hm.s_pass, Hm.s_brk, Hm.s_cnt, Hm.ss_nil, Hm.ss_cons, Hm.kU_1, Hm.kU_2, Hm.kU_3, Hm.kB2_1, Hm.kB2_2, Hm.kB2_3, Hm.kB1_1, Hm.kB1_2, Hm.kB1_3, Hm.kI2_1, Hm.kI2_2, Hm.kI2_3, Hm.kI1_1, Hm.kI1_2, Hm.kI1_3, Hm.kS3_1, Hm.kS3_2, Hm.kS3_3, Hm.kS2_1, Hm.kS2_2, Hm.kS2_3, Hm.kS1_1, Hm.kS1_2, Hm.kS1_3, Hm.kC3_1, Hm.kC3_2, Hm.kC3_3, Hm.kC2'_1, Hm.kC2'_2, Hm.kC2_1, Hm.kC2_2, Hm.kC2_3, Hm.kC1_1, Hm.kC1_2, Hm.kC1_3, Hm.kTb_1, Hm.kTb_2, Hm.kTb_3, Hm.kIf_1, Hm.kIf_2, Hm.kIf_3, Hm.kIf_4, Hm.kTup_1, Hm.kTup_2, Hm.kTup_3, Hm.kLst_1, Hm.kLst_2, Hm.kLst_3, Hm.kCall_1, Hm.kCall_2, Hm.kCall_3, Hm.kX2_1, Hm.kX2_2, Hm.kX2_3, Hm.kX1_1, Hm.kX1_2, Hm.kX1_3, Hm.kL2_1, Hm.kL1_1, Hm.kL1_2, Hm.kL1_3, Hm.kLr_1, Hm.kLr_2, Hm.kLr_3, Hm.kOwn_1, Hm.kOwn_2, Hm.kOwn_3, Hm.kAn_1, Hm.kAn_2, Hm.kAn_3, Hm.kAn_4, Hm.kOr_1, Hm.kOr_2, Hm.kOr_3, Hm.kOr_4, Hm.kNt_1, Hm.kNt_2, Hm.kNt_3, Hm.kTr'_1, Hm.kTr'_2, Hm.kTr_1, Hm.kTr_2, Hm.kTr_3, Hm.kAnV_1, Hm.kAnV_2, Hm.kAnV_3, Hm.kAnV_4, Hm.kOrV_1, Hm.kOrV_2, Hm.kOrV_3, Hm.kOrV_4, Hm.kVl_1, Hm.kVl_2, Hm.kVl_3, Hm.kEo_1, Hm.kEo_2, Hm.kEo_3, Hm.kEs2_1, Hm.kEs2_2, Hm.kEs2_3, Hm.kEs1_1, Hm.kEs1_2, Hm.kEs1_3, Hm.kAs2_1, Hm.kAs2_2, Hm.kAs2_3, Hm.kAs1_1, Hm.kAs1_2, Hm.kAs1_3, Hm.kW_1, Hm.kW_2, Hm.kSq_1, Hm.kSq_2, Hm.kSq_3, Hm.kScr_1, Hm.kScr_2, Hm.kScr_3, Hm.kRg_1, Hm.kRg_2, Hm.kRg_3, Hm.kEn_1, Hm.kEn_2, Hm.kEn_3, Hm.kSet_1, Hm.kSet_2, Hm.kSet_3, Hm.kExp_1, Hm.kExp_2, Hm.kExp_3, Hm.kRet_1, Hm.kRet_2, Hm.kRet_3, Hm.kIff_1, Hm.kIff_2, Hm.kIff_3, Hm.kIff_4, Hm.kAp2_1, Hm.kAp1_1, Hm.kAp1_2, Hm.kAp1_3, Hm.kAp_1, Hm.kPl_1, Hm.kPl_2, Hm.kPd_1, Hm.kPd_2, Hm.kPk_1, Hm.kPk_2, Hm.kP3_1, Hm.kP3_2, Hm.kP2_1, Hm.kP2_2, Hm.kP2_3, Hm.kP1_1, Hm.kP1_2, Hm.kP1_3, Hm.kFor_1, Hm.kFor_2, Hm.kFor_3, Hm.kSeq_1, Hm.kSeq_2, Hm.kSeq_3, Hm.kSeq_4, Hm.kSeq_5, Hm.kSeq_6, Hm.kOp_s, Hm.kOp_n, Hm.kV_1, Hm.kMv_1, Hm.kSv_1, Hm.cr_1, Hm.cr_2, Hm.add_i, Hm.sub_i, Hm.mul_r, Hm.mul_l, Hm.mod_i, Hm.fdiv_i, Hm.lt_i, Hm.le_i, Hm.gt_i, Hm.ge_i, Hm.eq_i, Hm.eq_b, Hm.eq_s, Hm.ne_i, Hm.ne_b, Hm.min_i, Hm.max_i, Hm.isN_, Hm.notN_, Hm.neg_i, Hm.abs_i, Hm.int_i, Hm.int_b, Hm.len_l, Hm.len_t, Hm.ix_l, Hm.ix_t, Hm.tru_b, Hm.tru_i, Hm.own_i, Hm.ownV_v, Hm.lst_, Hm.tup_, Hm.sz_, Hm.join_s, Hm.join_n, Hm.at_0, Hm.at_1, Hm.at_2, Hm.at_3, Hm.at_4, Hm.at_5, Hm.at_6, Hm.at_7, Hm.at_8, Hm.at_9, Hm.at_10, Hm.at_11, Hm.at_12, Hm.at_13, Hm.at_14, Hm.at_15, Hm.at_16, Hm.at_17, Hm.at_18, Hm.at_19, Hm.at_20, Hm.at_21, Hm.at_22, Hm.at_23, Hm.at_24, Hm.at_25, Hm.ix5_0, Hm.ix5_1, Hm.ix5_2, Hm.ix5_3, Hm.ix5_4, Hm.pow_18, Hm.pow_39, Hm.pow_40, held, D.isC, isCs, E.pu, D.isNon, Cn.d, List.length_cons, List.length_nil, List.getElem?_cons_zero, List.getElem?_cons_succ, List.getElem?_nil, List.set_cons_zero, List.set_cons_succ, List.map_cons, List.map_nil, Option.map_some, Option.map_none, decide_eq_true_eq, Bool.true_and, Bool.and_true, Bool.false_and, Bool.and_false, Bool.not_true, Bool.not_false, Bool.or_true, Bool.true_or, Bool.or_false, Bool.false_or, or_true, true_or, or_false, false_or, and_true, true_and, Bool.false_eq_true, reduceCtorEq, not_true_eq_false, not_false_eq_true, Nat.reduceAdd, Nat.reduceLT, Nat.zero_add, eq_self, decide_true, decide_false, ↓reduceIte, Option.isSome_some, Option.isSome_none, ne_eq, Int.reduceNeg, Int.reducePow, Int.reduceLT, Int.reduceLE, Int.reduceEq, Int.reduceSub, Int.reduceAdd, Int.reduceMul, Nat.reducePow, Nat.reduceLeDiff]
    exact ⟨_, _, _, go_ret rfl e2, s2, hz3⟩
theorem numbers (n : Nat) (s : D) (h : St s) : ∃ (zs : List Int) (s' : D), F (n + 6) 11 [s] = .ok (.lst true (zs.map .int)) [some s'] ∧ St s' ∧ zs.length ≤ 500 := by
  obtain ⟨s1, m, e1, h1, m0, m1⟩ := num_1 n s h
  obtain ⟨s2, x2, x4, x5, zs, e2, h2, hz⟩ := num_3 n s1 h1 m m0 m1
  obtain ⟨s3, zs', ρ, e3, h3, hz'⟩ := num_5 n s2 h2 m x2 x4 x5 zs hz
  rw [cl11, Df.run_eq _ _ _ rfl]
  refine ⟨zs', s3, ?_, h3, hz'⟩
  show (Ss.go (F (n + 5)) [0] (b__law_numbers.dr 0) [some s, none, none, none, none, none, none]).toCR d__law_numbers = _
  rw [e1, e2, e3]
  rfl
end Lw
end
section
set_option Elab.async false
set_option linter.all false
set_option maxRecDepth 100000
set_option maxHeartbeats 1000000
namespace Lw
open PySem PySem.Spec PyProof.Rows L2 Hm
def rks (zs : List Int) : List Int := zs.map (rk (dedI (srtI zs)))
theorem rks_len (zs : List Int) : (rks zs).length = zs.length := List.length_map ..
theorem noSh_ints : ∀ zs : List Int, noShs (zs.map D.int) = true
  | [] => rfl
  | z :: zs => noSh_ints zs
theorem noSh_l (zs : List Int) : D.noSh (.lst true (zs.map .int)) = true := by rw [D.noSh, noSh_ints]; rfl
theorem call_due (n : Nat) (o : Bool) (zs : List Int) (hz : zs.length < 4000) (ρ : Ev) : callR (F (n + 1)) 12 [.d (.lst o (zs.map .int))] ρ = .ok (.lst true ((rks zs).map .int), false) ρ := by
  rw [callR_ok (as := [.d (.lst o (zs.map .int))]) (ds := [.lst o (zs.map .int)]) rfl List.nodup_nil (due_ranks n o zs (by omega)) rfl]
  rfl
theorem call_rk (n : Nat) (o : Bool) (zs : List Int) (hz : zs.length < 4000) (ρ : Ev) : callR (F (n + 1)) 0 [.d (.lst o (zs.map .int))] ρ = .ok (.lst true ((rks zs).map .int), false) ρ := by
  rw [callR_ok (as := [.d (.lst o (zs.map .int))]) (ds := [.lst o (zs.map .int)]) rfl List.nodup_nil (ranks_of n o zs (by omega)) rfl]
  rfl
theorem lend_l (zs : List Int) : (D.rootOnly (.lst true (zs.map .int)) || D.isC (.lst true (zs.map .int))) = true := by
  show (isCs (zs.map D.int) || _) = true
  rw [cells_isC]
  rfl
theorem call_rk_ln (n : Nat) (zs : List Int) (hz : zs.length < 4000) (x0 x1 x2 x3 x4 x5 x7 : Option D) : callR (F (n + 1)) 0 [.ln 6] [x0, x1, x2, x3, x4, x5, some (.lst true (zs.map .int)), x7] = .ok (.lst true ((rks zs).map .int), false) [x0, x1, x2, x3, x4, x5, some (.lst true (zs.map .int)), x7] := by
  have ha : argsD [x0, x1, x2, x3, x4, x5, some (.lst true (zs.map .int)), x7] [.ln 6] = some [.lst false (zs.map .int)] := by
    show some [D.clr (.lst true (zs.map .int))] = _
    rw [clr_ints]
  rw [callR_ok (as := [.ln 6]) (ds := [.lst false (zs.map .int)]) ha (by show ([6] : List Nat).Nodup; decide) (ranks_of n false zs (by omega)) rfl]
  have h1 : (D.noSh (.lst true ((rks zs).map .int)) && (finNoSh [.ln 6] [none] && lendable [x0, x1, x2, x3, x4, x5, some (.lst true (zs.map .int)), x7] [.ln 6])) = true := by
    rw [noSh_l]
    show (true && (true && ((D.rootOnly (.lst true (zs.map .int)) || D.isC (.lst true (zs.map .int))) && true))) = true
    rw [lend_l]
    rfl
  show R.ok _ (backF _ _ (D.noSh (.lst true ((rks zs).map .int)) && (finNoSh [.ln 6] [none] && lendable [x0, x1, x2, x3, x4, x5, some (.lst true (zs.map .int)), x7] [.ln 6])) _ _) = _
  rw [h1]
  rfl
theorem call_same (n : Nat) (o o' : Bool) (zs : List Int) (hz : zs.length < 4000) (ρ : Ev) : callR (F (n + 2)) 8 [.d (.lst o (zs.map .int)), .d (.lst o' (zs.map .int))] ρ = .ok (.bl true, false) ρ := by
  rw [callR_ok (as := [.d (.lst o (zs.map .int)), .d (.lst o' (zs.map .int))]) (ds := [.lst o (zs.map .int), .lst o' (zs.map .int)]) rfl List.nodup_nil (same_list n o o' zs (by omega)) rfl]
  rfl
theorem call_same_6 (n : Nat) (o' : Bool) (zs : List Int) (hz : zs.length < 4000) (x0 x1 x2 x3 x4 x5 x7 : Option D) : callR (F (n + 2)) 8 [.ln 6, .d (.lst o' (zs.map .int))] [x0, x1, x2, x3, x4, x5, some (.lst true (zs.map .int)), x7] = .ok (.bl true, false) [x0, x1, x2, x3, x4, x5, some (.lst true (zs.map .int)), x7] := by
  have ha : argsD [x0, x1, x2, x3, x4, x5, some (.lst true (zs.map .int)), x7] [.ln 6, .d (.lst o' (zs.map .int))] = some [.lst false (zs.map .int), .lst o' (zs.map .int)] := by
    show some [D.clr (.lst true (zs.map .int)), _] = _
    rw [clr_ints]
  rw [callR_ok (as := [.ln 6, .d (.lst o' (zs.map .int))]) (ds := [.lst false (zs.map .int), .lst o' (zs.map .int)]) ha (by show ([6] : List Nat).Nodup; decide) (same_list n false o' zs (by omega)) rfl]
  show R.ok _ (backF _ _ (true && (true && ((D.rootOnly (.lst true (zs.map .int)) || D.isC (.lst true (zs.map .int))) && true))) _ _) = _
  rw [lend_l]
  rfl
theorem call_same_7 (n : Nat) (o' : Bool) (zs : List Int) (hz : zs.length < 4000) (x0 x1 x2 x3 x4 x5 x6 : Option D) : callR (F (n + 2)) 8 [.ln 7, .d (.lst o' (zs.map .int))] [x0, x1, x2, x3, x4, x5, x6, some (.lst true (zs.map .int))] = .ok (.bl true, false) [x0, x1, x2, x3, x4, x5, x6, some (.lst true (zs.map .int))] := by
  have ha : argsD [x0, x1, x2, x3, x4, x5, x6, some (.lst true (zs.map .int))] [.ln 7, .d (.lst o' (zs.map .int))] = some [.lst false (zs.map .int), .lst o' (zs.map .int)] := by
    show some [D.clr (.lst true (zs.map .int)), _] = _
    rw [clr_ints]
  rw [callR_ok (as := [.ln 7, .d (.lst o' (zs.map .int))]) (ds := [.lst false (zs.map .int), .lst o' (zs.map .int)]) ha (by show ([7] : List Nat).Nodup; decide) (same_list n false o' zs (by omega)) rfl]
  show R.ok _ (backF _ _ (true && (true && ((D.rootOnly (.lst true (zs.map .int)) || D.isC (.lst true (zs.map .int))) && true))) _ _) = _
  rw [lend_l]
  rfl
theorem ap_ints {zs : List Int} {z : Int} : zs.map D.int ++ [D.int z] = (zs ++ [z]).map D.int := by rw [List.map_append]; rfl
theorem set_ints {zs : List Int} {i : Nat} {z : Int} : (zs.map D.int).set i (D.int z) = (zs.set i z).map D.int := by rw [List.map_set]
def b_law_for : Ss := (b_law.nth 4).fb
theorem law_body (n : Nat) (s : D) (one zs : List Int) (more : Int) (o : Bool) (x6 x7 : Option D) (hz : zs.length ≤ 500) :
    ∃ ws : List Int, Ss.go (F (n + 3)) [] b_law_for [none, some s, some (.lst false (one.map .int)), none, some (.int more), some (.lst o (zs.map .int)), x6, x7] = .nx [none, some s, some (.lst false (one.map .int)), none, some (.int more), some (.lst false (zs.map .int)), some (.lst true (zs.map .int)), some (.lst true (ws.map .int))] := by
  have c1 := list_l (o := o) (cells_isC zs)
  have c2 := fun (x5 x7 : Option D) => call_rk_ln (n + 2) zs (by omega) none (some s) (some (.lst false (one.map .int))) none (some (.int more)) x5 x7
  have c3 := fun (o : Bool) (ρ : Ev) => call_due (n + 2) o zs (by omega) ρ
  have c4 := fun (x5 x6 : Option D) => call_same_7 (n + 1) true (rks zs) (by rw [rks_len]; omega) none (some s) (some (.lst false (one.map .int))) none (some (.int more)) x5 x6
  have c5 := fun (x5 x7 : Option D) => call_same_6 (n + 1) false zs (by omega) none (some s) (some (.lst false (one.map .int))) none (some (.int more)) x5 x7
  have c6 := fun (ρ : Ev) => call_same (n + 1) true true (rks zs) (by rw [rks_len]; omega) ρ
  have f1 := cells_isC zs
  have f2 : (((rks zs).map D.int).length < 16777216) = True := eq_true (by rw [List.length_map, rks_len]; omega)
  obtain ⟨z, hz0⟩ := atI_in (zs := rks zs ++ [0]) (i := 0) (Int.le_refl _) (by rw [List.length_append, List.length_cons, List.length_nil]; omega)
  have f3 : L2.ixN ((rks zs ++ [0]).map D.int).length 0 = some 0 := ixN_in (Int.le_refl _) (by rw [List.length_map, List.length_append, List.length_cons, List.length_nil]; omega)
  refine ⟨(rks zs ++ [0]).set 0 (z - 1), ?_⟩
  cases o <;>
  simp only [b_law_for, b_law, Ss.nth, S.fb, clr_ints, c1, c2, c3, c4, c5, c6, f1, f2, f3, ap_ints, set_ints, hz0, Hm.s_set, Hm.s_for, Hm.as_c, Hm.as_g, Hm.as_v, Hm.as_mv, Hm.as_u, Hm.as_b, Hm.as_ix, Hm.as_sl, Hm.as_ch, Hm.as_tb, Hm.as_ife, Hm.as_tup, Hm.as_lst, Hm.as_call, Hm.as_idx, Hm.as_lc, Hm.as_dE, Hm.as_sv, Hm.as_lr, Hm.go_ch, List.contains_nil, List.contains_cons, Nat.reduceBEq, List.any_cons, List.any_nil, beq_self_eq_true, Hm.go_c, Hm.go_g, Hm.go_v, Hm.go_mv, Hm.go_sv, Hm.go_u, Hm.go_b, Hm.go_ix, Hm.go_sl, Hm.go_tb, Hm.go_ife, Hm.go_tup, Hm.go_lst, Hm.go_call, Hm.go_idx, Hm.go_lc, Hm.go_dE, Hm.go_lr, Hm.tst_an, Hm.tst_or, Hm.tst_nt, Hm.tst_one, Hm.tst_e, Hm.val_an, Hm.val_or, Hm.val_nt, Hm.val_one, Hm.val_e, Hm.eo_no, Hm.eo_yes, Hm.to_no, Hm.to_yes, Hm.es_nil, Hm.es_cons, Hm.as_nil, Hm.as_io, Hm.as_ln, Hm.it_seq, Hm.it_scr, Hm.it_rng, Hm.it_enum, Hm.s_expr, Hm.s_ret, Hm.s_iff, Hm.s_app, Hm.s_put, Hm.s_pass, Hm.s_brk, Hm.s_cnt, Hm.ss_nil, Hm.ss_cons, Hm.kU_1, Hm.kU_2, Hm.kU_3, Hm.kB2_1, Hm.kB2_2, Hm.kB2_3, Hm.kB1_1, Hm.kB1_2, Hm.kB1_3, Hm.kI2_1, Hm.kI2_2, Hm.kI2_3, Hm.kI1_1, Hm.kI1_2, Hm.kI1_3, Hm.kS3_1, Hm.kS3_2, Hm.kS3_3, Hm.kS2_1, Hm.kS2_2, Hm.kS2_3, Hm.kS1_1, Hm.kS1_2, Hm.kS1_3, Hm.kC3_1, Hm.kC3_2, Hm.kC3_3, Hm.kC2'_1, Hm.kC2'_2, Hm.kC2_1, Hm.kC2_2, Hm.kC2_3, Hm.kC1_1, Hm.kC1_2, Hm.kC1_3, Hm.kTb_1, Hm.kTb_2, Hm.kTb_3, Hm.kIf_1, Hm.kIf_2, Hm.kIf_3, Hm.kIf_4, Hm.kTup_1, Hm.kTup_2, Hm.kTup_3, Hm.kLst_1, Hm.kLst_2, Hm.kLst_3, Hm.kCall_1, Hm.kCall_2, Hm.kCall_3, Hm.kX2_1, Hm.kX2_2, Hm.kX2_3, Hm.kX1_1, Hm.kX1_2, Hm.kX1_3, Hm.kL2_1, Hm.kL1_1, Hm.kL1_2, Hm.kL1_3, Hm.kLr_1, Hm.kLr_2, Hm.kLr_3, Hm.kOwn_1, Hm.kOwn_2, Hm.kOwn_3, Hm.kAn_1, Hm.kAn_2, Hm.kAn_3, Hm.kAn_4, Hm.kOr_1, Hm.kOr_2, Hm.kOr_3, Hm.kOr_4, Hm.kNt_1, Hm.kNt_2, Hm.kNt_3, Hm.kTr'_1, Hm.kTr'_2, Hm.kTr_1, Hm.kTr_2, Hm.kTr_3, Hm.kAnV_1, Hm.kAnV_2, Hm.kAnV_3, Hm.kAnV_4, Hm.kOrV_1, Hm.kOrV_2, Hm.kOrV_3, Hm.kOrV_4, Hm.kVl_1, Hm.kVl_2, Hm.kVl_3, Hm.kEo_1, Hm.kEo_2, Hm.kEo_3, Hm.kEs2_1, Hm.kEs2_2, Hm.kEs2_3, Hm.kEs1_1, Hm.kEs1_2, Hm.kEs1_3, Hm.kAs2_1, Hm.kAs2_2, Hm.kAs2_3, Hm.kAs1_1, Hm.kAs1_2, Hm.kAs1_3, Hm.kW_1, Hm.kW_2, Hm.kSq_1, Hm.kSq_2, Hm.kSq_3, Hm.kScr_1, Hm.kScr_2, Hm.kScr_3, Hm.kRg_1, Hm.kRg_2, Hm.kRg_3, Hm.kEn_1, Hm.kEn_2, Hm.kEn_3, Hm.kSet_1, Hm.kSet_2, Hm.kSet_3, Hm.kExp_1, Hm.kExp_2, Hm.kExp_3, Hm.kRet_1, Hm.kRet_2, Hm.kRet_3, Hm.kIff_1, Hm.kIff_2, Hm.kIff_3, Hm.kIff_4, Hm.kAp2_1, Hm.kAp1_1, Hm.kAp1_2, Hm.kAp1_3, Hm.kAp_1, Hm.kPl_1, Hm.kPl_2, Hm.kPd_1, Hm.kPd_2, Hm.kPk_1, Hm.kPk_2, Hm.kP3_1, Hm.kP3_2, Hm.kP2_1, Hm.kP2_2, Hm.kP2_3, Hm.kP1_1, Hm.kP1_2, Hm.kP1_3, Hm.kFor_1, Hm.kFor_2, Hm.kFor_3, Hm.kSeq_1, Hm.kSeq_2, Hm.kSeq_3, Hm.kSeq_4, Hm.kSeq_5, Hm.kSeq_6, Hm.kOp_s, Hm.kOp_n, Hm.kV_1, Hm.kMv_1, Hm.kSv_1, Hm.cr_1, Hm.cr_2, Hm.add_i, Hm.sub_i, Hm.mul_r, Hm.mul_l, Hm.mod_i, Hm.fdiv_i, Hm.lt_i, Hm.le_i, Hm.gt_i, Hm.ge_i, Hm.eq_i, Hm.eq_b, Hm.eq_s, Hm.ne_i, Hm.ne_b, Hm.min_i, Hm.max_i, Hm.isN_, Hm.notN_, Hm.neg_i, Hm.abs_i, Hm.int_i, Hm.int_b, Hm.len_l, Hm.len_t, Hm.ix_l, Hm.ix_t, Hm.tru_b, Hm.tru_i, Hm.own_i, Hm.ownV_v, Hm.lst_, Hm.tup_, Hm.sz_, Hm.join_s, Hm.join_n, Hm.at_0, Hm.at_1, Hm.at_2, Hm.at_3, Hm.at_4, Hm.at_5, Hm.at_6, Hm.at_7, Hm.at_8, Hm.at_9, Hm.at_10, Hm.at_11, Hm.at_12, Hm.at_13, Hm.at_14, Hm.at_15, Hm.at_16, Hm.at_17, Hm.at_18, Hm.at_19, Hm.at_20, Hm.at_21, Hm.at_22, Hm.at_23, Hm.at_24, Hm.at_25, Hm.ix5_0, Hm.ix5_1, Hm.ix5_2, Hm.ix5_3, Hm.ix5_4, Hm.pow_18, Hm.pow_39, Hm.pow_40, held, D.isC, isCs, E.pu, D.isNon, Cn.d, List.length_cons, List.length_nil, List.getElem?_cons_zero, List.getElem?_cons_succ, List.getElem?_nil, List.set_cons_zero, List.set_cons_succ, List.map_cons, List.map_nil, Option.map_some, Option.map_none, decide_eq_true_eq, Bool.true_and, Bool.and_true, Bool.false_and, Bool.and_false, Bool.not_true, Bool.not_false, Bool.or_true, Bool.true_or, Bool.or_false, Bool.false_or, or_true, true_or, or_false, false_or, and_true, true_and, Bool.false_eq_true, reduceCtorEq, not_true_eq_false, not_false_eq_true, Nat.reduceAdd, Nat.reduceLT, Nat.zero_add, eq_self, decide_true, decide_false, ↓reduceIte, Option.isSome_some, Option.isSome_none, ne_eq, Int.reduceNeg, Int.reducePow, Int.reduceLT, Int.reduceLE, Int.reduceEq, Int.reduceSub, Int.reduceAdd, Int.reduceMul, Nat.reducePow, Nat.reduceLeDiff]
theorem cl13 (n : Nat) (ds : List D) : F (n + 1) 13 ds = d_law.run (F n) ds := rfl
theorem law_1 (n : Nat) (ns : List Int) (hl : ns.length ≤ 63) : ∃ (s : D) (one two : List Int) (more : Int), Ss.go (F (n + 6)) [] (b_law.dr 0) [some (.scr ns), none, none, none, none, none, none, none] = Ss.go (F (n + 6)) [] (b_law.dr 4) [none, some s, some (.lst true (one.map .int)), some (.lst true (two.map .int)), some (.int more), none, none, none] ∧ one.length ≤ 500 ∧ two.length ≤ 500 := by
  obtain ⟨s, e0, hs⟩ := store (n + 5) ns hl
  obtain ⟨one, s1, e1, hs1, h1⟩ := numbers n s hs
  obtain ⟨two, s2, e2, hs2, h2⟩ := numbers n s1 hs1
  obtain ⟨more, s3, e3, hs3⟩ := wide (n + 2) s2 hs2
  refine ⟨s3, one, two, more, ?_, h1, h2⟩
  have q0 : S.go (F (n + 6)) [] (b_law.nth 0) [some (.scr ns), none, none, none, none, none, none, none] = .nx [none, some s, none, none, none, none, none, none] := by
    have c : ∀ ρ : Ev, callR (F (n + 6)) 2 [.d (.scr ns)] ρ = .ok (s, false) ρ := fun ρ => by
      rw [callR_ok (as := [.d (.scr ns)]) (ds := [.scr ns]) rfl List.nodup_nil e0 rfl]
      rfl
    simp only [b_law, Ss.nth, c, Hm.s_set, Hm.s_for, Hm.as_c, Hm.as_g, Hm.as_v, Hm.as_mv, Hm.as_u, Hm.as_b, Hm.as_ix, Hm.as_sl, Hm.as_ch, Hm.as_tb, Hm.as_ife, Hm.as_tup, Hm.as_lst, Hm.as_call, Hm.as_idx, Hm.as_lc, Hm.as_dE, Hm.as_sv, Hm.as_lr, Hm.go_ch, List.contains_nil, List.contains_cons, Nat.reduceBEq, List.any_cons, List.any_nil, beq_self_eq_true, Hm.go_c, Hm.go_g, Hm.go_v, Hm.go_mv, Hm.go_sv, Hm.go_u, Hm.go_b, Hm.go_ix, Hm.go_sl, Hm.go_tb, Hm.go_ife, Hm.go_tup, Hm.go_lst, Hm.go_call, Hm.go_idx, Hm.go_lc, Hm.go_dE, Hm.go_lr, Hm.tst_an, Hm.tst_or, Hm.tst_nt, Hm.tst_one, Hm.tst_e, Hm.val_an, Hm.val_or, Hm.val_nt, Hm.val_one, Hm.val_e, Hm.eo_no, Hm.eo_yes, Hm.to_no, Hm.to_yes, Hm.es_nil, Hm.es_cons, Hm.as_nil, Hm.as_io, Hm.as_ln, Hm.it_seq, Hm.it_scr, Hm.it_rng, Hm.it_enum, Hm.s_expr, Hm.s_ret, Hm.s_iff, Hm.s_app, Hm.s_put, Hm.s_pass, Hm.s_brk, Hm.s_cnt, Hm.ss_nil, Hm.ss_cons, Hm.kU_1, Hm.kU_2, Hm.kU_3, Hm.kB2_1, Hm.kB2_2, Hm.kB2_3, Hm.kB1_1, Hm.kB1_2, Hm.kB1_3, Hm.kI2_1, Hm.kI2_2, Hm.kI2_3, Hm.kI1_1, Hm.kI1_2, Hm.kI1_3, Hm.kS3_1, Hm.kS3_2, Hm.kS3_3, Hm.kS2_1, Hm.kS2_2, Hm.kS2_3, Hm.kS1_1, Hm.kS1_2, Hm.kS1_3, Hm.kC3_1, Hm.kC3_2, Hm.kC3_3, Hm.kC2'_1, Hm.kC2'_2, Hm.kC2_1, Hm.kC2_2, Hm.kC2_3, Hm.kC1_1, Hm.kC1_2, Hm.kC1_3, Hm.kTb_1, Hm.kTb_2, Hm.kTb_3, Hm.kIf_1, Hm.kIf_2, Hm.kIf_3, Hm.kIf_4, Hm.kTup_1, Hm.kTup_2, Hm.kTup_3, Hm.kLst_1, Hm.kLst_2, Hm.kLst_3, Hm.kCall_1, Hm.kCall_2, Hm.kCall_3, Hm.kX2_1, Hm.kX2_2, Hm.kX2_3, Hm.kX1_1, Hm.kX1_2, Hm.kX1_3, Hm.kL2_1, Hm.kL1_1, Hm.kL1_2, Hm.kL1_3, Hm.kLr_1, Hm.kLr_2, Hm.kLr_3, Hm.kOwn_1, Hm.kOwn_2, Hm.kOwn_3, Hm.kAn_1, Hm.kAn_2, Hm.kAn_3, Hm.kAn_4, Hm.kOr_1, Hm.kOr_2, Hm.kOr_3, Hm.kOr_4, Hm.kNt_1, Hm.kNt_2, Hm.kNt_3, Hm.kTr'_1, Hm.kTr'_2, Hm.kTr_1, Hm.kTr_2, Hm.kTr_3, Hm.kAnV_1, Hm.kAnV_2, Hm.kAnV_3, Hm.kAnV_4, Hm.kOrV_1, Hm.kOrV_2, Hm.kOrV_3, Hm.kOrV_4, Hm.kVl_1, Hm.kVl_2, Hm.kVl_3, Hm.kEo_1, Hm.kEo_2, Hm.kEo_3, Hm.kEs2_1, Hm.kEs2_2, Hm.kEs2_3, Hm.kEs1_1, Hm.kEs1_2, Hm.kEs1_3, Hm.kAs2_1, Hm.kAs2_2, Hm.kAs2_3, Hm.kAs1_1, Hm.kAs1_2, Hm.kAs1_3, Hm.kW_1, Hm.kW_2, Hm.kSq_1, Hm.kSq_2, Hm.kSq_3, Hm.kScr_1, Hm.kScr_2, Hm.kScr_3, Hm.kRg_1, Hm.kRg_2, Hm.kRg_3, Hm.kEn_1, Hm.kEn_2, Hm.kEn_3, Hm.kSet_1, Hm.kSet_2, Hm.kSet_3, Hm.kExp_1, Hm.kExp_2, Hm.kExp_3, Hm.kRet_1, Hm.kRet_2, Hm.kRet_3, Hm.kIff_1, Hm.kIff_2, Hm.kIff_3, Hm.kIff_4, Hm.kAp2_1, Hm.kAp1_1, Hm.kAp1_2, Hm.kAp1_3, Hm.kAp_1, Hm.kPl_1, Hm.kPl_2, Hm.kPd_1, Hm.kPd_2, Hm.kPk_1, Hm.kPk_2, Hm.kP3_1, Hm.kP3_2, Hm.kP2_1, Hm.kP2_2, Hm.kP2_3, Hm.kP1_1, Hm.kP1_2, Hm.kP1_3, Hm.kFor_1, Hm.kFor_2, Hm.kFor_3, Hm.kSeq_1, Hm.kSeq_2, Hm.kSeq_3, Hm.kSeq_4, Hm.kSeq_5, Hm.kSeq_6, Hm.kOp_s, Hm.kOp_n, Hm.kV_1, Hm.kMv_1, Hm.kSv_1, Hm.cr_1, Hm.cr_2, Hm.add_i, Hm.sub_i, Hm.mul_r, Hm.mul_l, Hm.mod_i, Hm.fdiv_i, Hm.lt_i, Hm.le_i, Hm.gt_i, Hm.ge_i, Hm.eq_i, Hm.eq_b, Hm.eq_s, Hm.ne_i, Hm.ne_b, Hm.min_i, Hm.max_i, Hm.isN_, Hm.notN_, Hm.neg_i, Hm.abs_i, Hm.int_i, Hm.int_b, Hm.len_l, Hm.len_t, Hm.ix_l, Hm.ix_t, Hm.tru_b, Hm.tru_i, Hm.own_i, Hm.ownV_v, Hm.lst_, Hm.tup_, Hm.sz_, Hm.join_s, Hm.join_n, Hm.at_0, Hm.at_1, Hm.at_2, Hm.at_3, Hm.at_4, Hm.at_5, Hm.at_6, Hm.at_7, Hm.at_8, Hm.at_9, Hm.at_10, Hm.at_11, Hm.at_12, Hm.at_13, Hm.at_14, Hm.at_15, Hm.at_16, Hm.at_17, Hm.at_18, Hm.at_19, Hm.at_20, Hm.at_21, Hm.at_22, Hm.at_23, Hm.at_24, Hm.at_25, Hm.ix5_0, Hm.ix5_1, Hm.ix5_2, Hm.ix5_3, Hm.ix5_4, Hm.pow_18, Hm.pow_39, Hm.pow_40, held, D.isC, isCs, E.pu, D.isNon, Cn.d, List.length_cons, List.length_nil, List.getElem?_cons_zero, List.getElem?_cons_succ, List.getElem?_nil, List.set_cons_zero, List.set_cons_succ, List.map_cons, List.map_nil, Option.map_some, Option.map_none, decide_eq_true_eq, Bool.true_and, Bool.and_true, Bool.false_and, Bool.and_false, Bool.not_true, Bool.not_false, Bool.or_true, Bool.true_or, Bool.or_false, Bool.false_or, or_true, true_or, or_false, false_or, and_true, true_and, Bool.false_eq_true, reduceCtorEq, not_true_eq_false, not_false_eq_true, Nat.reduceAdd, Nat.reduceLT, Nat.zero_add, eq_self, decide_true, decide_false, ↓reduceIte, Option.isSome_some, Option.isSome_none, ne_eq, Int.reduceNeg, Int.reducePow, Int.reduceLT, Int.reduceLE, Int.reduceEq, Int.reduceSub, Int.reduceAdd, Int.reduceMul, Nat.reducePow, Nat.reduceLeDiff]
  have q1 : S.go (F (n + 6)) [] (b_law.nth (0 + 1)) [none, some s, none, none, none, none, none, none] = .nx [none, some s1, some (.lst true (one.map .int)), none, none, none, none, none] := by
    have c : ∀ r : Ev, callR (F (n + 6)) 11 [.io 1] (none :: some s :: r) = .ok (.lst true (one.map .int), false) (none :: some s1 :: r) := fun r => by
      rw [callR_ok (as := [.io 1]) (ds := [s]) rfl (by show ([1] : List Nat).Nodup; decide) e1 rfl]
      rfl
    simp only [b_law, Ss.nth, c, Hm.s_set, Hm.s_for, Hm.as_c, Hm.as_g, Hm.as_v, Hm.as_mv, Hm.as_u, Hm.as_b, Hm.as_ix, Hm.as_sl, Hm.as_ch, Hm.as_tb, Hm.as_ife, Hm.as_tup, Hm.as_lst, Hm.as_call, Hm.as_idx, Hm.as_lc, Hm.as_dE, Hm.as_sv, Hm.as_lr, Hm.go_ch, List.contains_nil, List.contains_cons, Nat.reduceBEq, List.any_cons, List.any_nil, beq_self_eq_true, Hm.go_c, Hm.go_g, Hm.go_v, Hm.go_mv, Hm.go_sv, Hm.go_u, Hm.go_b, Hm.go_ix, Hm.go_sl, Hm.go_tb, Hm.go_ife, Hm.go_tup, Hm.go_lst, Hm.go_call, Hm.go_idx, Hm.go_lc, Hm.go_dE, Hm.go_lr, Hm.tst_an, Hm.tst_or, Hm.tst_nt, Hm.tst_one, Hm.tst_e, Hm.val_an, Hm.val_or, Hm.val_nt, Hm.val_one, Hm.val_e, Hm.eo_no, Hm.eo_yes, Hm.to_no, Hm.to_yes, Hm.es_nil, Hm.es_cons, Hm.as_nil, Hm.as_io, Hm.as_ln, Hm.it_seq, Hm.it_scr, Hm.it_rng, Hm.it_enum, Hm.s_expr, Hm.s_ret, Hm.s_iff, Hm.s_app, Hm.s_put, Hm.s_pass, Hm.s_brk, Hm.s_cnt, Hm.ss_nil, Hm.ss_cons, Hm.kU_1, Hm.kU_2, Hm.kU_3, Hm.kB2_1, Hm.kB2_2, Hm.kB2_3, Hm.kB1_1, Hm.kB1_2, Hm.kB1_3, Hm.kI2_1, Hm.kI2_2, Hm.kI2_3, Hm.kI1_1, Hm.kI1_2, Hm.kI1_3, Hm.kS3_1, Hm.kS3_2, Hm.kS3_3, Hm.kS2_1, Hm.kS2_2, Hm.kS2_3, Hm.kS1_1, Hm.kS1_2, Hm.kS1_3, Hm.kC3_1, Hm.kC3_2, Hm.kC3_3, Hm.kC2'_1, Hm.kC2'_2, Hm.kC2_1, Hm.kC2_2, Hm.kC2_3, Hm.kC1_1, Hm.kC1_2, Hm.kC1_3, Hm.kTb_1, Hm.kTb_2, Hm.kTb_3, Hm.kIf_1, Hm.kIf_2, Hm.kIf_3, Hm.kIf_4, Hm.kTup_1, Hm.kTup_2, Hm.kTup_3, Hm.kLst_1, Hm.kLst_2, Hm.kLst_3, Hm.kCall_1, Hm.kCall_2, Hm.kCall_3, Hm.kX2_1, Hm.kX2_2, Hm.kX2_3, Hm.kX1_1, Hm.kX1_2, Hm.kX1_3, Hm.kL2_1, Hm.kL1_1, Hm.kL1_2, Hm.kL1_3, Hm.kLr_1, Hm.kLr_2, Hm.kLr_3, Hm.kOwn_1, Hm.kOwn_2, Hm.kOwn_3, Hm.kAn_1, Hm.kAn_2, Hm.kAn_3, Hm.kAn_4, Hm.kOr_1, Hm.kOr_2, Hm.kOr_3, Hm.kOr_4, Hm.kNt_1, Hm.kNt_2, Hm.kNt_3, Hm.kTr'_1, Hm.kTr'_2, Hm.kTr_1, Hm.kTr_2, Hm.kTr_3, Hm.kAnV_1, Hm.kAnV_2, Hm.kAnV_3, Hm.kAnV_4, Hm.kOrV_1, Hm.kOrV_2, Hm.kOrV_3, Hm.kOrV_4, Hm.kVl_1, Hm.kVl_2, Hm.kVl_3, Hm.kEo_1, Hm.kEo_2, Hm.kEo_3, Hm.kEs2_1, Hm.kEs2_2, Hm.kEs2_3, Hm.kEs1_1, Hm.kEs1_2, Hm.kEs1_3, Hm.kAs2_1, Hm.kAs2_2, Hm.kAs2_3, Hm.kAs1_1, Hm.kAs1_2, Hm.kAs1_3, Hm.kW_1, Hm.kW_2, Hm.kSq_1, Hm.kSq_2, Hm.kSq_3, Hm.kScr_1, Hm.kScr_2, Hm.kScr_3, Hm.kRg_1, Hm.kRg_2, Hm.kRg_3, Hm.kEn_1, Hm.kEn_2, Hm.kEn_3, Hm.kSet_1, Hm.kSet_2, Hm.kSet_3, Hm.kExp_1, Hm.kExp_2, Hm.kExp_3, Hm.kRet_1, Hm.kRet_2, Hm.kRet_3, Hm.kIff_1, Hm.kIff_2, Hm.kIff_3, Hm.kIff_4, Hm.kAp2_1, Hm.kAp1_1, Hm.kAp1_2, Hm.kAp1_3, Hm.kAp_1, Hm.kPl_1, Hm.kPl_2, Hm.kPd_1, Hm.kPd_2, Hm.kPk_1, Hm.kPk_2, Hm.kP3_1, Hm.kP3_2, Hm.kP2_1, Hm.kP2_2, Hm.kP2_3, Hm.kP1_1, Hm.kP1_2, Hm.kP1_3, Hm.kFor_1, Hm.kFor_2, Hm.kFor_3, Hm.kSeq_1, Hm.kSeq_2, Hm.kSeq_3, Hm.kSeq_4, Hm.kSeq_5, Hm.kSeq_6, Hm.kOp_s, Hm.kOp_n, Hm.kV_1, Hm.kMv_1, Hm.kSv_1, Hm.cr_1, Hm.cr_2, Hm.add_i, Hm.sub_i, Hm.mul_r, Hm.mul_l, Hm.mod_i, Hm.fdiv_i, Hm.lt_i, Hm.le_i, Hm.gt_i, Hm.ge_i, Hm.eq_i, Hm.eq_b, Hm.eq_s, Hm.ne_i, Hm.ne_b, Hm.min_i, Hm.max_i, Hm.isN_, Hm.notN_, Hm.neg_i, Hm.abs_i, Hm.int_i, Hm.int_b, Hm.len_l, Hm.len_t, Hm.ix_l, Hm.ix_t, Hm.tru_b, Hm.tru_i, Hm.own_i, Hm.ownV_v, Hm.lst_, Hm.tup_, Hm.sz_, Hm.join_s, Hm.join_n, Hm.at_0, Hm.at_1, Hm.at_2, Hm.at_3, Hm.at_4, Hm.at_5, Hm.at_6, Hm.at_7, Hm.at_8, Hm.at_9, Hm.at_10, Hm.at_11, Hm.at_12, Hm.at_13, Hm.at_14, Hm.at_15, Hm.at_16, Hm.at_17, Hm.at_18, Hm.at_19, Hm.at_20, Hm.at_21, Hm.at_22, Hm.at_23, Hm.at_24, Hm.at_25, Hm.ix5_0, Hm.ix5_1, Hm.ix5_2, Hm.ix5_3, Hm.ix5_4, Hm.pow_18, Hm.pow_39, Hm.pow_40, held, D.isC, isCs, E.pu, D.isNon, Cn.d, List.length_cons, List.length_nil, List.getElem?_cons_zero, List.getElem?_cons_succ, List.getElem?_nil, List.set_cons_zero, List.set_cons_succ, List.map_cons, List.map_nil, Option.map_some, Option.map_none, decide_eq_true_eq, Bool.true_and, Bool.and_true, Bool.false_and, Bool.and_false, Bool.not_true, Bool.not_false, Bool.or_true, Bool.true_or, Bool.or_false, Bool.false_or, or_true, true_or, or_false, false_or, and_true, true_and, Bool.false_eq_true, reduceCtorEq, not_true_eq_false, not_false_eq_true, Nat.reduceAdd, Nat.reduceLT, Nat.zero_add, eq_self, decide_true, decide_false, ↓reduceIte, Option.isSome_some, Option.isSome_none, ne_eq, Int.reduceNeg, Int.reducePow, Int.reduceLT, Int.reduceLE, Int.reduceEq, Int.reduceSub, Int.reduceAdd, Int.reduceMul, Nat.reducePow, Nat.reduceLeDiff]
  have q2 : S.go (F (n + 6)) [] (b_law.nth (0 + 1 + 1)) [none, some s1, some (.lst true (one.map .int)), none, none, none, none, none] = .nx [none, some s2, some (.lst true (one.map .int)), some (.lst true (two.map .int)), none, none, none, none] := by
    have c : ∀ r : Ev, callR (F (n + 6)) 11 [.io 1] (none :: some s1 :: r) = .ok (.lst true (two.map .int), false) (none :: some s2 :: r) := fun r => by
      rw [callR_ok (as := [.io 1]) (ds := [s1]) rfl (by show ([1] : List Nat).Nodup; decide) e2 rfl]
      rfl
    simp only [b_law, Ss.nth, c, Hm.s_set, Hm.s_for, Hm.as_c, Hm.as_g, Hm.as_v, Hm.as_mv, Hm.as_u, Hm.as_b, Hm.as_ix, Hm.as_sl, Hm.as_ch, Hm.as_tb, Hm.as_ife, Hm.as_tup, Hm.as_lst, Hm.as_call, Hm.as_idx, Hm.as_lc, Hm.as_dE, Hm.as_sv, Hm.as_lr, Hm.go_ch, List.contains_nil, List.contains_cons, Nat.reduceBEq, List.any_cons, List.any_nil, beq_self_eq_true, Hm.go_c, Hm.go_g, Hm.go_v, Hm.go_mv, Hm.go_sv, Hm.go_u, Hm.go_b, Hm.go_ix, Hm.go_sl, Hm.go_tb, Hm.go_ife, Hm.go_tup, Hm.go_lst, Hm.go_call, Hm.go_idx, Hm.go_lc, Hm.go_dE, Hm.go_lr, Hm.tst_an, Hm.tst_or, Hm.tst_nt, Hm.tst_one, Hm.tst_e, Hm.val_an, Hm.val_or, Hm.val_nt, Hm.val_one, Hm.val_e, Hm.eo_no, Hm.eo_yes, Hm.to_no, Hm.to_yes, Hm.es_nil, Hm.es_cons, Hm.as_nil, Hm.as_io, Hm.as_ln, Hm.it_seq, Hm.it_scr, Hm.it_rng, Hm.it_enum, Hm.s_expr, Hm.s_ret, Hm.s_iff, Hm.s_app, Hm.s_put, Hm.s_pass, Hm.s_brk, Hm.s_cnt, Hm.ss_nil, Hm.ss_cons, Hm.kU_1, Hm.kU_2, Hm.kU_3, Hm.kB2_1, Hm.kB2_2, Hm.kB2_3, Hm.kB1_1, Hm.kB1_2, Hm.kB1_3, Hm.kI2_1, Hm.kI2_2, Hm.kI2_3, Hm.kI1_1, Hm.kI1_2, Hm.kI1_3, Hm.kS3_1, Hm.kS3_2, Hm.kS3_3, Hm.kS2_1, Hm.kS2_2, Hm.kS2_3, Hm.kS1_1, Hm.kS1_2, Hm.kS1_3, Hm.kC3_1, Hm.kC3_2, Hm.kC3_3, Hm.kC2'_1, Hm.kC2'_2, Hm.kC2_1, Hm.kC2_2, Hm.kC2_3, Hm.kC1_1, Hm.kC1_2, Hm.kC1_3, Hm.kTb_1, Hm.kTb_2, Hm.kTb_3, Hm.kIf_1, Hm.kIf_2, Hm.kIf_3, Hm.kIf_4, Hm.kTup_1, Hm.kTup_2, Hm.kTup_3, Hm.kLst_1, Hm.kLst_2, Hm.kLst_3, Hm.kCall_1, Hm.kCall_2, Hm.kCall_3, Hm.kX2_1, Hm.kX2_2, Hm.kX2_3, Hm.kX1_1, Hm.kX1_2, Hm.kX1_3, Hm.kL2_1, Hm.kL1_1, Hm.kL1_2, Hm.kL1_3, Hm.kLr_1, Hm.kLr_2, Hm.kLr_3, Hm.kOwn_1, Hm.kOwn_2, Hm.kOwn_3, Hm.kAn_1, Hm.kAn_2, Hm.kAn_3, Hm.kAn_4, Hm.kOr_1, Hm.kOr_2, Hm.kOr_3, Hm.kOr_4, Hm.kNt_1, Hm.kNt_2, Hm.kNt_3, Hm.kTr'_1, Hm.kTr'_2, Hm.kTr_1, Hm.kTr_2, Hm.kTr_3, Hm.kAnV_1, Hm.kAnV_2, Hm.kAnV_3, Hm.kAnV_4, Hm.kOrV_1, Hm.kOrV_2, Hm.kOrV_3, Hm.kOrV_4, Hm.kVl_1, Hm.kVl_2, Hm.kVl_3, Hm.kEo_1, Hm.kEo_2, Hm.kEo_3, Hm.kEs2_1, Hm.kEs2_2, Hm.kEs2_3, Hm.kEs1_1, Hm.kEs1_2, Hm.kEs1_3, Hm.kAs2_1, Hm.kAs2_2, Hm.kAs2_3, Hm.kAs1_1, Hm.kAs1_2, Hm.kAs1_3, Hm.kW_1, Hm.kW_2, Hm.kSq_1, Hm.kSq_2, Hm.kSq_3, Hm.kScr_1, Hm.kScr_2, Hm.kScr_3, Hm.kRg_1, Hm.kRg_2, Hm.kRg_3, Hm.kEn_1, Hm.kEn_2, Hm.kEn_3, Hm.kSet_1, Hm.kSet_2, Hm.kSet_3, Hm.kExp_1, Hm.kExp_2, Hm.kExp_3, Hm.kRet_1, Hm.kRet_2, Hm.kRet_3, Hm.kIff_1, Hm.kIff_2, Hm.kIff_3, Hm.kIff_4, Hm.kAp2_1, Hm.kAp1_1, Hm.kAp1_2, Hm.kAp1_3, Hm.kAp_1, Hm.kPl_1, Hm.kPl_2, Hm.kPd_1, Hm.kPd_2, Hm.kPk_1, Hm.kPk_2, Hm.kP3_1, Hm.kP3_2, Hm.kP2_1, Hm.kP2_2, Hm.kP2_3, Hm.kP1_1, Hm.kP1_2, Hm.kP1_3, Hm.kFor_1, Hm.kFor_2, Hm.kFor_3, Hm.kSeq_1, Hm.kSeq_2, Hm.kSeq_3, Hm.kSeq_4, Hm.kSeq_5, Hm.kSeq_6, Hm.kOp_s, Hm.kOp_n, Hm.kV_1, Hm.kMv_1, Hm.kSv_1, Hm.cr_1, Hm.cr_2, Hm.add_i, Hm.sub_i, Hm.mul_r, Hm.mul_l, Hm.mod_i, Hm.fdiv_i, Hm.lt_i, Hm.le_i, Hm.gt_i, Hm.ge_i, Hm.eq_i, Hm.eq_b, Hm.eq_s, Hm.ne_i, Hm.ne_b, Hm.min_i, Hm.max_i, Hm.isN_, Hm.notN_, Hm.neg_i, Hm.abs_i, Hm.int_i, Hm.int_b, Hm.len_l, Hm.len_t, Hm.ix_l, Hm.ix_t, Hm.tru_b, Hm.tru_i, Hm.own_i, Hm.ownV_v, Hm.lst_, Hm.tup_, Hm.sz_, Hm.join_s, Hm.join_n, Hm.at_0, Hm.at_1, Hm.at_2, Hm.at_3, Hm.at_4, Hm.at_5, Hm.at_6, Hm.at_7, Hm.at_8, Hm.at_9, Hm.at_10, Hm.at_11, Hm.at_12, Hm.at_13, Hm.at_14, Hm.at_15, Hm.at_16, Hm.at_17, Hm.at_18, Hm.at_19, Hm.at_20, Hm.at_21, Hm.at_22, Hm.at_23, Hm.at_24, Hm.at_25, Hm.ix5_0, Hm.ix5_1, Hm.ix5_2, Hm.ix5_3, Hm.ix5_4, Hm.pow_18, Hm.pow_39, Hm.pow_40, held, D.isC, isCs, E.pu, D.isNon, Cn.d, List.length_cons, List.length_nil, List.getElem?_cons_zero, List.getElem?_cons_succ, List.getElem?_nil, List.set_cons_zero, List.set_cons_succ, List.map_cons, List.map_nil, Option.map_some, Option.map_none, decide_eq_true_eq, Bool.true_and, Bool.and_true, Bool.false_and, Bool.and_false, Bool.not_true, Bool.not_false, Bool.or_true, Bool.true_or, Bool.or_false, Bool.false_or, or_true, true_or, or_false, false_or, and_true, true_and, Bool.false_eq_true, reduceCtorEq, not_true_eq_false, not_false_eq_true, Nat.reduceAdd, Nat.reduceLT, Nat.zero_add, eq_self, decide_true, decide_false, ↓reduceIte, Option.isSome_some, Option.isSome_none, ne_eq, Int.reduceNeg, Int.reducePow, Int.reduceLT, Int.reduceLE, Int.reduceEq, Int.reduceSub, Int.reduceAdd, Int.reduceMul, Nat.reducePow, Nat.reduceLeDiff]
  have q3 : S.go (F (n + 6)) [] (b_law.nth (0 + 1 + 1 + 1)) [none, some s2, some (.lst true (one.map .int)), some (.lst true (two.map .int)), none, none, none, none] = .nx [none, some s3, some (.lst true (one.map .int)), some (.lst true (two.map .int)), some (.int more), none, none, none] := by
    have c : ∀ r : Ev, callR (F (n + 6)) 6 [.io 1] (none :: some s2 :: r) = .ok (.int more, false) (none :: some s3 :: r) := fun r => by
      rw [callR_ok (as := [.io 1]) (ds := [s2]) rfl (by show ([1] : List Nat).Nodup; decide) e3 rfl]
      rfl
    simp only [b_law, Ss.nth, c, Hm.s_set, Hm.s_for, Hm.as_c, Hm.as_g, Hm.as_v, Hm.as_mv, Hm.as_u, Hm.as_b, Hm.as_ix, Hm.as_sl, Hm.as_ch, Hm.as_tb, Hm.as_ife, Hm.as_tup, Hm.as_lst, Hm.as_call, Hm.as_idx, Hm.as_lc, Hm.as_dE, Hm.as_sv, Hm.as_lr, Hm.go_ch, List.contains_nil, List.contains_cons, Nat.reduceBEq, List.any_cons, List.any_nil, beq_self_eq_true, Hm.go_c, Hm.go_g, Hm.go_v, Hm.go_mv, Hm.go_sv, Hm.go_u, Hm.go_b, Hm.go_ix, Hm.go_sl, Hm.go_tb, Hm.go_ife, Hm.go_tup, Hm.go_lst, Hm.go_call, Hm.go_idx, Hm.go_lc, Hm.go_dE, Hm.go_lr, Hm.tst_an, Hm.tst_or, Hm.tst_nt, Hm.tst_one, Hm.tst_e, Hm.val_an, Hm.val_or, Hm.val_nt, Hm.val_one, Hm.val_e, Hm.eo_no, Hm.eo_yes, Hm.to_no, Hm.to_yes, Hm.es_nil, Hm.es_cons, Hm.as_nil, Hm.as_io, Hm.as_ln, Hm.it_seq, Hm.it_scr, Hm.it_rng, Hm.it_enum, Hm.s_expr, Hm.s_ret, Hm.s_iff, Hm.s_app, Hm.s_put, Hm.s_pass, Hm.s_brk, Hm.s_cnt, Hm.ss_nil, Hm.ss_cons, Hm.kU_1, Hm.kU_2, Hm.kU_3, Hm.kB2_1, Hm.kB2_2, Hm.kB2_3, Hm.kB1_1, Hm.kB1_2, Hm.kB1_3, Hm.kI2_1, Hm.kI2_2, Hm.kI2_3, Hm.kI1_1, Hm.kI1_2, Hm.kI1_3, Hm.kS3_1, Hm.kS3_2, Hm.kS3_3, Hm.kS2_1, Hm.kS2_2, Hm.kS2_3, Hm.kS1_1, Hm.kS1_2, Hm.kS1_3, Hm.kC3_1, Hm.kC3_2, Hm.kC3_3, Hm.kC2'_1, Hm.kC2'_2, Hm.kC2_1, Hm.kC2_2, Hm.kC2_3, Hm.kC1_1, Hm.kC1_2, Hm.kC1_3, Hm.kTb_1, Hm.kTb_2, Hm.kTb_3, Hm.kIf_1, Hm.kIf_2, Hm.kIf_3, Hm.kIf_4, Hm.kTup_1, Hm.kTup_2, Hm.kTup_3, Hm.kLst_1, Hm.kLst_2, Hm.kLst_3, Hm.kCall_1, Hm.kCall_2, Hm.kCall_3, Hm.kX2_1, Hm.kX2_2, Hm.kX2_3, Hm.kX1_1, Hm.kX1_2, Hm.kX1_3, Hm.kL2_1, Hm.kL1_1, Hm.kL1_2, Hm.kL1_3, Hm.kLr_1, Hm.kLr_2, Hm.kLr_3, Hm.kOwn_1, Hm.kOwn_2, Hm.kOwn_3, Hm.kAn_1, Hm.kAn_2, Hm.kAn_3, Hm.kAn_4, Hm.kOr_1, Hm.kOr_2, Hm.kOr_3, Hm.kOr_4, Hm.kNt_1, Hm.kNt_2, Hm.kNt_3, Hm.kTr'_1, Hm.kTr'_2, Hm.kTr_1, Hm.kTr_2, Hm.kTr_3, Hm.kAnV_1, Hm.kAnV_2, Hm.kAnV_3, Hm.kAnV_4, Hm.kOrV_1, Hm.kOrV_2, Hm.kOrV_3, Hm.kOrV_4, Hm.kVl_1, Hm.kVl_2, Hm.kVl_3, Hm.kEo_1, Hm.kEo_2, Hm.kEo_3, Hm.kEs2_1, Hm.kEs2_2, Hm.kEs2_3, Hm.kEs1_1, Hm.kEs1_2, Hm.kEs1_3, Hm.kAs2_1, Hm.kAs2_2, Hm.kAs2_3, Hm.kAs1_1, Hm.kAs1_2, Hm.kAs1_3, Hm.kW_1, Hm.kW_2, Hm.kSq_1, Hm.kSq_2, Hm.kSq_3, Hm.kScr_1, Hm.kScr_2, Hm.kScr_3, Hm.kRg_1, Hm.kRg_2, Hm.kRg_3, Hm.kEn_1, Hm.kEn_2, Hm.kEn_3, Hm.kSet_1, Hm.kSet_2, Hm.kSet_3, Hm.kExp_1, Hm.kExp_2, Hm.kExp_3, Hm.kRet_1, Hm.kRet_2, Hm.kRet_3, Hm.kIff_1, Hm.kIff_2, Hm.kIff_3, Hm.kIff_4, Hm.kAp2_1, Hm.kAp1_1, Hm.kAp1_2, Hm.kAp1_3, Hm.kAp_1, Hm.kPl_1, Hm.kPl_2, Hm.kPd_1, Hm.kPd_2, Hm.kPk_1, Hm.kPk_2, Hm.kP3_1, Hm.kP3_2, Hm.kP2_1, Hm.kP2_2, Hm.kP2_3, Hm.kP1_1, Hm.kP1_2, Hm.kP1_3, Hm.kFor_1, Hm.kFor_2, Hm.kFor_3, Hm.kSeq_1, Hm.kSeq_2, Hm.kSeq_3, Hm.kSeq_4, Hm.kSeq_5, Hm.kSeq_6, Hm.kOp_s, Hm.kOp_n, Hm.kV_1, Hm.kMv_1, Hm.kSv_1, Hm.cr_1, Hm.cr_2, Hm.add_i, Hm.sub_i, Hm.mul_r, Hm.mul_l, Hm.mod_i, Hm.fdiv_i, Hm.lt_i, Hm.le_i, Hm.gt_i, Hm.ge_i, Hm.eq_i, Hm.eq_b, Hm.eq_s, Hm.ne_i, Hm.ne_b, Hm.min_i, Hm.max_i, Hm.isN_, Hm.notN_, Hm.neg_i, Hm.abs_i, Hm.int_i, Hm.int_b, Hm.len_l, Hm.len_t, Hm.ix_l, Hm.ix_t, Hm.tru_b, Hm.tru_i, Hm.own_i, Hm.ownV_v, Hm.lst_, Hm.tup_, Hm.sz_, Hm.join_s, Hm.join_n, Hm.at_0, Hm.at_1, Hm.at_2, Hm.at_3, Hm.at_4, Hm.at_5, Hm.at_6, Hm.at_7, Hm.at_8, Hm.at_9, Hm.at_10, Hm.at_11, Hm.at_12, Hm.at_13, Hm.at_14, Hm.at_15, Hm.at_16, Hm.at_17, Hm.at_18, Hm.at_19, Hm.at_20, Hm.at_21, Hm.at_22, Hm.at_23, Hm.at_24, Hm.at_25, Hm.ix5_0, Hm.ix5_1, Hm.ix5_2, Hm.ix5_3, Hm.ix5_4, Hm.pow_18, Hm.pow_39, Hm.pow_40, held, D.isC, isCs, E.pu, D.isNon, Cn.d, List.length_cons, List.length_nil, List.getElem?_cons_zero, List.getElem?_cons_succ, List.getElem?_nil, List.set_cons_zero, List.set_cons_succ, List.map_cons, List.map_nil, Option.map_some, Option.map_none, decide_eq_true_eq, Bool.true_and, Bool.and_true, Bool.false_and, Bool.and_false, Bool.not_true, Bool.not_false, Bool.or_true, Bool.true_or, Bool.or_false, Bool.false_or, or_true, true_or, or_false, false_or, and_true, true_and, Bool.false_eq_true, reduceCtorEq, not_true_eq_false, not_false_eq_true, Nat.reduceAdd, Nat.reduceLT, Nat.zero_add, eq_self, decide_true, decide_false, ↓reduceIte, Option.isSome_some, Option.isSome_none, ne_eq, Int.reduceNeg, Int.reducePow, Int.reduceLT, Int.reduceLE, Int.reduceEq, Int.reduceSub, Int.reduceAdd, Int.reduceMul, Nat.reducePow, Nat.reduceLeDiff]
  rw [go_step rfl q0, go_step rfl q1, go_step rfl q2, go_step rfl q3]
end Lw
end
section
set_option Elab.async false
set_option linter.all false
set_option maxRecDepth 100000
set_option maxHeartbeats 1000000
namespace Lw
open PySem PySem.Spec PyProof.Rows L2 Hm
theorem law_2 (n : Nat) (s : D) (one two : List Int) (more : Int) (h1 : one.length ≤ 500) (h2 : two.length ≤ 500) : ∃ x5 x6 x7 : Option D, Ss.go (F (n + 3)) [] (b_law.dr 4) [none, some s, some (.lst true (one.map .int)), some (.lst true (two.map .int)), some (.int more), none, none, none] = Ss.go (F (n + 3)) [] (b_law.dr 5) [none, some s, some (.lst false (one.map .int)), none, some (.int more), x5, x6, x7] := by
  obtain ⟨ρ', e, x5, x6, x7, rfl⟩ := for_inv (F := F (n + 3)) (ro := []) (tg := [5]) (b := b_law_for) (fun ρ => ∃ x5 x6 x7 : Option D, ρ = [none, some s, some (.lst false (one.map .int)), none, some (.int more), x5, x6, x7]) [[.lst false (one.map .int)], [.lst true (two.map .int)], [.lst false (one.map .int)]] _ ⟨none, none, none, rfl⟩ (by
    rintro x hx ρ ⟨x5, x6, x7, rfl⟩
    have : ∃ (o : Bool) (zs : List Int), x = [.lst o (zs.map .int)] ∧ zs.length ≤ 500 := by
      rcases List.mem_cons.mp hx with rfl | hx
      · exact ⟨_, _, rfl, h1⟩
      rcases List.mem_cons.mp hx with rfl | hx
      · exact ⟨_, _, rfl, h2⟩
      rcases List.mem_cons.mp hx with rfl | hx
      · exact ⟨_, _, rfl, h1⟩
      exact nomatch hx
    obtain ⟨o, zs, rfl, hz⟩ := this
    obtain ⟨ws, e⟩ := law_body n s one zs more o x6 x7 hz
    exact ⟨rfl, rfl, _, e, ⟨_, _, _, rfl⟩⟩)
  refine ⟨x5, x6, x7, go_step rfl ?_⟩
  have f1 := cells_isC one
  have hi : ∀ a b c : D, D.iter (.lst true [a, b, c]) = some [a, b, c] := fun _ _ _ => rfl
  simp only [b_law_for, b_law, Ss.nth, S.fb] at e
  simp only [b_law, Ss.nth, clr_ints, hi, f1, e, Hm.s_set, Hm.s_for, Hm.as_c, Hm.as_g, Hm.as_v, Hm.as_mv, Hm.as_u, Hm.as_b, Hm.as_ix, Hm.as_sl, Hm.as_ch, Hm.as_tb, Hm.as_ife, Hm.as_tup, Hm.as_lst, Hm.as_call, Hm.as_idx, Hm.as_lc, Hm.as_dE, Hm.as_sv, Hm.as_lr, Hm.go_ch, List.contains_nil, List.contains_cons, Nat.reduceBEq, List.any_cons, List.any_nil, beq_self_eq_true, Hm.go_c, Hm.go_g, Hm.go_v, Hm.go_mv, Hm.go_sv, Hm.go_u, Hm.go_b, Hm.go_ix, Hm.go_sl, Hm.go_tb, Hm.go_ife, Hm.go_tup, Hm.go_lst, Hm.go_call, Hm.go_idx, Hm.go_lc, Hm.go_dE, Hm.go_lr, Hm.tst_an, Hm.tst_or, Hm.tst_nt, Hm.tst_one, Hm.tst_e, Hm.val_an, Hm.val_or, Hm.val_nt, Hm.val_one, Hm.val_e, Hm.eo_no, Hm.eo_yes, Hm.to_no, Hm.to_yes, Hm.es_nil, Hm.es_cons, Hm.as_nil, Hm.as_io, Hm.as_ln, Hm.it_seq, Hm.it_scr, Hm.it_rng, Hm.it_enum, Hm.s_expr, Hm.s_ret, Hm.s_iff, Hm.s_app, Hm.s_put, Hm.s_pass, Hm.s_brk, Hm.s_cnt, Hm.ss_nil, Hm.ss_cons, Hm.kU_1, Hm.kU_2, Hm.kU_3, Hm.kB2_1, Hm.kB2_2, Hm.kB2_3, Hm.kB1_1, Hm.kB1_2, Hm.kB1_3, Hm.kI2_1, Hm.kI2_2, Hm.kI2_3, Hm.kI1_1, Hm.kI1_2, Hm.kI1_3, Hm.kS3_1, Hm.kS3_2, Hm.kS3_3, Hm.kS2_1, Hm.kS2_2, Hm.kS2_3, Hm.kS1_1, Hm.kS1_2, Hm.kS1_3, Hm.kC3_1, Hm.kC3_2, Hm.kC3_3, Hm.kC2'_1, Hm.kC2'_2, Hm.kC2_1, Hm.kC2_2, Hm.kC2_3, Hm.kC1_1, Hm.kC1_2, Hm.kC1_3, Hm.kTb_1, Hm.kTb_2, Hm.kTb_3, Hm.kIf_1, Hm.kIf_2, Hm.kIf_3, Hm.kIf_4, Hm.kTup_1, Hm.kTup_2, Hm.kTup_3, Hm.kLst_1, Hm.kLst_2, Hm.kLst_3, Hm.kCall_1, Hm.kCall_2, Hm.kCall_3, Hm.kX2_1, Hm.kX2_2, Hm.kX2_3, Hm.kX1_1, Hm.kX1_2, Hm.kX1_3, Hm.kL2_1, Hm.kL1_1, Hm.kL1_2, Hm.kL1_3, Hm.kLr_1, Hm.kLr_2, Hm.kLr_3, Hm.kOwn_1, Hm.kOwn_2, Hm.kOwn_3, Hm.kAn_1, Hm.kAn_2, Hm.kAn_3, Hm.kAn_4, Hm.kOr_1, Hm.kOr_2, Hm.kOr_3, Hm.kOr_4, Hm.kNt_1, Hm.kNt_2, Hm.kNt_3, Hm.kTr'_1, Hm.kTr'_2, Hm.kTr_1, Hm.kTr_2, Hm.kTr_3, Hm.kAnV_1, Hm.kAnV_2, Hm.kAnV_3, Hm.kAnV_4, Hm.kOrV_1, Hm.kOrV_2, Hm.kOrV_3, Hm.kOrV_4, Hm.kVl_1, Hm.kVl_2, Hm.kVl_3, Hm.kEo_1, Hm.kEo_2, Hm.kEo_3, Hm.kEs2_1, Hm.kEs2_2, Hm.kEs2_3, Hm.kEs1_1, Hm.kEs1_2, Hm.kEs1_3, Hm.kAs2_1, Hm.kAs2_2, Hm.kAs2_3, Hm.kAs1_1, Hm.kAs1_2, Hm.kAs1_3, Hm.kW_1, Hm.kW_2, Hm.kSq_1, Hm.kSq_2, Hm.kSq_3, Hm.kScr_1, Hm.kScr_2, Hm.kScr_3, Hm.kRg_1, Hm.kRg_2, Hm.kRg_3, Hm.kEn_1, Hm.kEn_2, Hm.kEn_3, Hm.kSet_1, Hm.kSet_2, Hm.kSet_3, Hm.kExp_1, Hm.kExp_2, Hm.kExp_3, Hm.kRet_1, Hm.kRet_2, Hm.kRet_3, Hm.kIff_1, Hm.kIff_2, Hm.kIff_3, Hm.kIff_4, Hm.kAp2_1, Hm.kAp1_1, Hm.kAp1_2, Hm.kAp1_3, Hm.kAp_1, Hm.kPl_1, Hm.kPl_2, Hm.kPd_1, Hm.kPd_2, Hm.kPk_1, Hm.kPk_2, Hm.kP3_1, Hm.kP3_2, Hm.kP2_1, Hm.kP2_2, Hm.kP2_3, Hm.kP1_1, Hm.kP1_2, Hm.kP1_3, Hm.kFor_1, Hm.kFor_2, Hm.kFor_3, Hm.kSeq_1, Hm.kSeq_2, Hm.kSeq_3, Hm.kSeq_4, Hm.kSeq_5, Hm.kSeq_6, Hm.kOp_s, Hm.kOp_n, Hm.kV_1, Hm.kMv_1, Hm.kSv_1, Hm.cr_1, Hm.cr_2, Hm.add_i, Hm.sub_i, Hm.mul_r, Hm.mul_l, Hm.mod_i, Hm.fdiv_i, Hm.lt_i, Hm.le_i, Hm.gt_i, Hm.ge_i, Hm.eq_i, Hm.eq_b, Hm.eq_s, Hm.ne_i, Hm.ne_b, Hm.min_i, Hm.max_i, Hm.isN_, Hm.notN_, Hm.neg_i, Hm.abs_i, Hm.int_i, Hm.int_b, Hm.len_l, Hm.len_t, Hm.ix_l, Hm.ix_t, Hm.tru_b, Hm.tru_i, Hm.own_i, Hm.ownV_v, Hm.lst_, Hm.tup_, Hm.sz_, Hm.join_s, Hm.join_n, Hm.at_0, Hm.at_1, Hm.at_2, Hm.at_3, Hm.at_4, Hm.at_5, Hm.at_6, Hm.at_7, Hm.at_8, Hm.at_9, Hm.at_10, Hm.at_11, Hm.at_12, Hm.at_13, Hm.at_14, Hm.at_15, Hm.at_16, Hm.at_17, Hm.at_18, Hm.at_19, Hm.at_20, Hm.at_21, Hm.at_22, Hm.at_23, Hm.at_24, Hm.at_25, Hm.ix5_0, Hm.ix5_1, Hm.ix5_2, Hm.ix5_3, Hm.ix5_4, Hm.pow_18, Hm.pow_39, Hm.pow_40, held, D.isC, isCs, E.pu, D.isNon, Cn.d, List.length_cons, List.length_nil, List.getElem?_cons_zero, List.getElem?_cons_succ, List.getElem?_nil, List.set_cons_zero, List.set_cons_succ, List.map_cons, List.map_nil, Option.map_some, Option.map_none, decide_eq_true_eq, Bool.true_and, Bool.and_true, Bool.false_and, Bool.and_false, Bool.not_true, Bool.not_false, Bool.or_true, Bool.true_or, Bool.or_false, Bool.false_or, or_true, true_or, or_false, false_or, and_true, true_and, Bool.false_eq_true, reduceCtorEq, not_true_eq_false, not_false_eq_true, Nat.reduceAdd, Nat.reduceLT, Nat.zero_add, eq_self, decide_true, decide_false, ↓reduceIte, Option.isSome_some, Option.isSome_none, ne_eq, Int.reduceNeg, Int.reducePow, Int.reduceLT, Int.reduceLE, Int.reduceEq, Int.reduceSub, Int.reduceAdd, Int.reduceMul, Nat.reducePow, Nat.reduceLeDiff]
theorem add_1 {zs : List Int} {z : Int} (h : zs.length < 4000) : B2.go .add (.lst false (zs.map .int)) (.lst true [.int z]) = some (.lst true ((zs ++ [z]).map .int)) := by
  show (if isCs (zs.map D.int) = true ∧ isCs [D.int z] = true ∧ (zs.map D.int).length + [D.int z].length ≤ sizeLine then some (D.lst true (zs.map D.int ++ [D.int z])) else none) = _
  rw [if_pos ⟨cells_isC zs, rfl, by rw [List.length_map, sz_, List.length_cons, List.length_nil]; omega⟩, ap_ints]
theorem law_3 (n : Nat) (s : D) (one : List Int) (more : Int) (h1 : one.length ≤ 500) (x5 x6 x7 : Option D) : ∃ ρ, Ss.go (F (n + 3)) [] (b_law.dr 5) [none, some s, some (.lst false (one.map .int)), none, some (.int more), x5, x6, x7] = .ret (.bl true) ρ := by
  have c1 := fun o => list_l (o := o) (cells_isC one)
  have c2 := fun (x5 x7 : Option D) => call_rk_ln (n + 2) one (by omega) none (some s) (some (.lst false (one.map .int))) none (some (.int more)) x5 x7
  have c3 := fun (o : Bool) (ρ : Ev) => call_due (n + 2) o one (by omega) ρ
  have c6 := fun (o o' : Bool) (ρ : Ev) => call_same (n + 1) o o' (rks one) (by rw [rks_len]; omega) ρ
  have f1 := cells_isC one
  have f2 : ((one.map D.int).length < 16777216) = True := eq_true (by rw [List.length_map]; omega)
  have e0 : S.go (F (n + 3)) [] (b_law.nth 5) [none, some s, some (.lst false (one.map .int)), none, some (.int more), x5, x6, x7] = .nx [none, some s, some (.lst false (one.map .int)), none, some (.int more), x5, some (.lst true (one.map .int)), x7] := by
    simp only [b_law, Ss.nth, c1, Hm.s_set, Hm.s_for, Hm.as_c, Hm.as_g, Hm.as_v, Hm.as_mv, Hm.as_u, Hm.as_b, Hm.as_ix, Hm.as_sl, Hm.as_ch, Hm.as_tb, Hm.as_ife, Hm.as_tup, Hm.as_lst, Hm.as_call, Hm.as_idx, Hm.as_lc, Hm.as_dE, Hm.as_sv, Hm.as_lr, Hm.go_ch, List.contains_nil, List.contains_cons, Nat.reduceBEq, List.any_cons, List.any_nil, beq_self_eq_true, Hm.go_c, Hm.go_g, Hm.go_v, Hm.go_mv, Hm.go_sv, Hm.go_u, Hm.go_b, Hm.go_ix, Hm.go_sl, Hm.go_tb, Hm.go_ife, Hm.go_tup, Hm.go_lst, Hm.go_call, Hm.go_idx, Hm.go_lc, Hm.go_dE, Hm.go_lr, Hm.tst_an, Hm.tst_or, Hm.tst_nt, Hm.tst_one, Hm.tst_e, Hm.val_an, Hm.val_or, Hm.val_nt, Hm.val_one, Hm.val_e, Hm.eo_no, Hm.eo_yes, Hm.to_no, Hm.to_yes, Hm.es_nil, Hm.es_cons, Hm.as_nil, Hm.as_io, Hm.as_ln, Hm.it_seq, Hm.it_scr, Hm.it_rng, Hm.it_enum, Hm.s_expr, Hm.s_ret, Hm.s_iff, Hm.s_app, Hm.s_put, Hm.s_pass, Hm.s_brk, Hm.s_cnt, Hm.ss_nil, Hm.ss_cons, Hm.kU_1, Hm.kU_2, Hm.kU_3, Hm.kB2_1, Hm.kB2_2, Hm.kB2_3, Hm.kB1_1, Hm.kB1_2, Hm.kB1_3, Hm.kI2_1, Hm.kI2_2, Hm.kI2_3, Hm.kI1_1, Hm.kI1_2, Hm.kI1_3, Hm.kS3_1, Hm.kS3_2, Hm.kS3_3, Hm.kS2_1, Hm.kS2_2, Hm.kS2_3, Hm.kS1_1, Hm.kS1_2, Hm.kS1_3, Hm.kC3_1, Hm.kC3_2, Hm.kC3_3, Hm.kC2'_1, Hm.kC2'_2, Hm.kC2_1, Hm.kC2_2, Hm.kC2_3, Hm.kC1_1, Hm.kC1_2, Hm.kC1_3, Hm.kTb_1, Hm.kTb_2, Hm.kTb_3, Hm.kIf_1, Hm.kIf_2, Hm.kIf_3, Hm.kIf_4, Hm.kTup_1, Hm.kTup_2, Hm.kTup_3, Hm.kLst_1, Hm.kLst_2, Hm.kLst_3, Hm.kCall_1, Hm.kCall_2, Hm.kCall_3, Hm.kX2_1, Hm.kX2_2, Hm.kX2_3, Hm.kX1_1, Hm.kX1_2, Hm.kX1_3, Hm.kL2_1, Hm.kL1_1, Hm.kL1_2, Hm.kL1_3, Hm.kLr_1, Hm.kLr_2, Hm.kLr_3, Hm.kOwn_1, Hm.kOwn_2, Hm.kOwn_3, Hm.kAn_1, Hm.kAn_2, Hm.kAn_3, Hm.kAn_4, Hm.kOr_1, Hm.kOr_2, Hm.kOr_3, Hm.kOr_4, Hm.kNt_1, Hm.kNt_2, Hm.kNt_3, Hm.kTr'_1, Hm.kTr'_2, Hm.kTr_1, Hm.kTr_2, Hm.kTr_3, Hm.kAnV_1, Hm.kAnV_2, Hm.kAnV_3, Hm.kAnV_4, Hm.kOrV_1, Hm.kOrV_2, Hm.kOrV_3, Hm.kOrV_4, Hm.kVl_1, Hm.kVl_2, Hm.kVl_3, Hm.kEo_1, Hm.kEo_2, Hm.kEo_3, Hm.kEs2_1, Hm.kEs2_2, Hm.kEs2_3, Hm.kEs1_1, Hm.kEs1_2, Hm.kEs1_3, Hm.kAs2_1, Hm.kAs2_2, Hm.kAs2_3, Hm.kAs1_1, Hm.kAs1_2, Hm.kAs1_3, Hm.kW_1, Hm.kW_2, Hm.kSq_1, Hm.kSq_2, Hm.kSq_3, Hm.kScr_1, Hm.kScr_2, Hm.kScr_3, Hm.kRg_1, Hm.kRg_2, Hm.kRg_3, Hm.kEn_1, Hm.kEn_2, Hm.kEn_3, Hm.kSet_1, Hm.kSet_2, Hm.kSet_3, Hm.kExp_1, Hm.kExp_2, Hm.kExp_3, Hm.kRet_1, Hm.kRet_2, Hm.kRet_3, Hm.kIff_1, Hm.kIff_2, Hm.kIff_3, Hm.kIff_4, Hm.kAp2_1, Hm.kAp1_1, Hm.kAp1_2, Hm.kAp1_3, Hm.kAp_1, Hm.kPl_1, Hm.kPl_2, Hm.kPd_1, Hm.kPd_2, Hm.kPk_1, Hm.kPk_2, Hm.kP3_1, Hm.kP3_2, Hm.kP2_1, Hm.kP2_2, Hm.kP2_3, Hm.kP1_1, Hm.kP1_2, Hm.kP1_3, Hm.kFor_1, Hm.kFor_2, Hm.kFor_3, Hm.kSeq_1, Hm.kSeq_2, Hm.kSeq_3, Hm.kSeq_4, Hm.kSeq_5, Hm.kSeq_6, Hm.kOp_s, Hm.kOp_n, Hm.kV_1, Hm.kMv_1, Hm.kSv_1, Hm.cr_1, Hm.cr_2, Hm.add_i, Hm.sub_i, Hm.mul_r, Hm.mul_l, Hm.mod_i, Hm.fdiv_i, Hm.lt_i, Hm.le_i, Hm.gt_i, Hm.ge_i, Hm.eq_i, Hm.eq_b, Hm.eq_s, Hm.ne_i, Hm.ne_b, Hm.min_i, Hm.max_i, Hm.isN_, Hm.notN_, Hm.neg_i, Hm.abs_i, Hm.int_i, Hm.int_b, Hm.len_l, Hm.len_t, Hm.ix_l, Hm.ix_t, Hm.tru_b, Hm.tru_i, Hm.own_i, Hm.ownV_v, Hm.lst_, Hm.tup_, Hm.sz_, Hm.join_s, Hm.join_n, Hm.at_0, Hm.at_1, Hm.at_2, Hm.at_3, Hm.at_4, Hm.at_5, Hm.at_6, Hm.at_7, Hm.at_8, Hm.at_9, Hm.at_10, Hm.at_11, Hm.at_12, Hm.at_13, Hm.at_14, Hm.at_15, Hm.at_16, Hm.at_17, Hm.at_18, Hm.at_19, Hm.at_20, Hm.at_21, Hm.at_22, Hm.at_23, Hm.at_24, Hm.at_25, Hm.ix5_0, Hm.ix5_1, Hm.ix5_2, Hm.ix5_3, Hm.ix5_4, Hm.pow_18, Hm.pow_39, Hm.pow_40, held, D.isC, isCs, E.pu, D.isNon, Cn.d, List.length_cons, List.length_nil, List.getElem?_cons_zero, List.getElem?_cons_succ, List.getElem?_nil, List.set_cons_zero, List.set_cons_succ, List.map_cons, List.map_nil, Option.map_some, Option.map_none, decide_eq_true_eq, Bool.true_and, Bool.and_true, Bool.false_and, Bool.and_false, Bool.not_true, Bool.not_false, Bool.or_true, Bool.true_or, Bool.or_false, Bool.false_or, or_true, true_or, or_false, false_or, and_true, true_and, Bool.false_eq_true, reduceCtorEq, not_true_eq_false, not_false_eq_true, Nat.reduceAdd, Nat.reduceLT, Nat.zero_add, eq_self, decide_true, decide_false, ↓reduceIte, Option.isSome_some, Option.isSome_none, ne_eq, Int.reduceNeg, Int.reducePow, Int.reduceLT, Int.reduceLE, Int.reduceEq, Int.reduceSub, Int.reduceAdd, Int.reduceMul, Nat.reducePow, Nat.reduceLeDiff]
  have e1 : S.go (F (n + 3)) [] (b_law.nth (5 + 1)) [none, some s, some (.lst false (one.map .int)), none, some (.int more), x5, some (.lst true (one.map .int)), x7] = .nx [none, some s, some (.lst false (one.map .int)), none, some (.int more), x5, some (.lst true (one.map .int)), some (.lst true ((rks one).map .int))] := by
    simp only [b_law, Ss.nth, c2, Hm.s_set, Hm.s_for, Hm.as_c, Hm.as_g, Hm.as_v, Hm.as_mv, Hm.as_u, Hm.as_b, Hm.as_ix, Hm.as_sl, Hm.as_ch, Hm.as_tb, Hm.as_ife, Hm.as_tup, Hm.as_lst, Hm.as_call, Hm.as_idx, Hm.as_lc, Hm.as_dE, Hm.as_sv, Hm.as_lr, Hm.go_ch, List.contains_nil, List.contains_cons, Nat.reduceBEq, List.any_cons, List.any_nil, beq_self_eq_true, Hm.go_c, Hm.go_g, Hm.go_v, Hm.go_mv, Hm.go_sv, Hm.go_u, Hm.go_b, Hm.go_ix, Hm.go_sl, Hm.go_tb, Hm.go_ife, Hm.go_tup, Hm.go_lst, Hm.go_call, Hm.go_idx, Hm.go_lc, Hm.go_dE, Hm.go_lr, Hm.tst_an, Hm.tst_or, Hm.tst_nt, Hm.tst_one, Hm.tst_e, Hm.val_an, Hm.val_or, Hm.val_nt, Hm.val_one, Hm.val_e, Hm.eo_no, Hm.eo_yes, Hm.to_no, Hm.to_yes, Hm.es_nil, Hm.es_cons, Hm.as_nil, Hm.as_io, Hm.as_ln, Hm.it_seq, Hm.it_scr, Hm.it_rng, Hm.it_enum, Hm.s_expr, Hm.s_ret, Hm.s_iff, Hm.s_app, Hm.s_put, Hm.s_pass, Hm.s_brk, Hm.s_cnt, Hm.ss_nil, Hm.ss_cons, Hm.kU_1, Hm.kU_2, Hm.kU_3, Hm.kB2_1, Hm.kB2_2, Hm.kB2_3, Hm.kB1_1, Hm.kB1_2, Hm.kB1_3, Hm.kI2_1, Hm.kI2_2, Hm.kI2_3, Hm.kI1_1, Hm.kI1_2, Hm.kI1_3, Hm.kS3_1, Hm.kS3_2, Hm.kS3_3, Hm.kS2_1, Hm.kS2_2, Hm.kS2_3, Hm.kS1_1, Hm.kS1_2, Hm.kS1_3, Hm.kC3_1, Hm.kC3_2, Hm.kC3_3, Hm.kC2'_1, Hm.kC2'_2, Hm.kC2_1, Hm.kC2_2, Hm.kC2_3, Hm.kC1_1, Hm.kC1_2, Hm.kC1_3, Hm.kTb_1, Hm.kTb_2, Hm.kTb_3, Hm.kIf_1, Hm.kIf_2, Hm.kIf_3, Hm.kIf_4, Hm.kTup_1, Hm.kTup_2, Hm.kTup_3, Hm.kLst_1, Hm.kLst_2, Hm.kLst_3, Hm.kCall_1, Hm.kCall_2, Hm.kCall_3, Hm.kX2_1, Hm.kX2_2, Hm.kX2_3, Hm.kX1_1, Hm.kX1_2, Hm.kX1_3, Hm.kL2_1, Hm.kL1_1, Hm.kL1_2, Hm.kL1_3, Hm.kLr_1, Hm.kLr_2, Hm.kLr_3, Hm.kOwn_1, Hm.kOwn_2, Hm.kOwn_3, Hm.kAn_1, Hm.kAn_2, Hm.kAn_3, Hm.kAn_4, Hm.kOr_1, Hm.kOr_2, Hm.kOr_3, Hm.kOr_4, Hm.kNt_1, Hm.kNt_2, Hm.kNt_3, Hm.kTr'_1, Hm.kTr'_2, Hm.kTr_1, Hm.kTr_2, Hm.kTr_3, Hm.kAnV_1, Hm.kAnV_2, Hm.kAnV_3, Hm.kAnV_4, Hm.kOrV_1, Hm.kOrV_2, Hm.kOrV_3, Hm.kOrV_4, Hm.kVl_1, Hm.kVl_2, Hm.kVl_3, Hm.kEo_1, Hm.kEo_2, Hm.kEo_3, Hm.kEs2_1, Hm.kEs2_2, Hm.kEs2_3, Hm.kEs1_1, Hm.kEs1_2, Hm.kEs1_3, Hm.kAs2_1, Hm.kAs2_2, Hm.kAs2_3, Hm.kAs1_1, Hm.kAs1_2, Hm.kAs1_3, Hm.kW_1, Hm.kW_2, Hm.kSq_1, Hm.kSq_2, Hm.kSq_3, Hm.kScr_1, Hm.kScr_2, Hm.kScr_3, Hm.kRg_1, Hm.kRg_2, Hm.kRg_3, Hm.kEn_1, Hm.kEn_2, Hm.kEn_3, Hm.kSet_1, Hm.kSet_2, Hm.kSet_3, Hm.kExp_1, Hm.kExp_2, Hm.kExp_3, Hm.kRet_1, Hm.kRet_2, Hm.kRet_3, Hm.kIff_1, Hm.kIff_2, Hm.kIff_3, Hm.kIff_4, Hm.kAp2_1, Hm.kAp1_1, Hm.kAp1_2, Hm.kAp1_3, Hm.kAp_1, Hm.kPl_1, Hm.kPl_2, Hm.kPd_1, Hm.kPd_2, Hm.kPk_1, Hm.kPk_2, Hm.kP3_1, Hm.kP3_2, Hm.kP2_1, Hm.kP2_2, Hm.kP2_3, Hm.kP1_1, Hm.kP1_2, Hm.kP1_3, Hm.kFor_1, Hm.kFor_2, Hm.kFor_3, Hm.kSeq_1, Hm.kSeq_2, Hm.kSeq_3, Hm.kSeq_4, Hm.kSeq_5, Hm.kSeq_6, Hm.kOp_s, Hm.kOp_n, Hm.kV_1, Hm.kMv_1, Hm.kSv_1, Hm.cr_1, Hm.cr_2, Hm.add_i, Hm.sub_i, Hm.mul_r, Hm.mul_l, Hm.mod_i, Hm.fdiv_i, Hm.lt_i, Hm.le_i, Hm.gt_i, Hm.ge_i, Hm.eq_i, Hm.eq_b, Hm.eq_s, Hm.ne_i, Hm.ne_b, Hm.min_i, Hm.max_i, Hm.isN_, Hm.notN_, Hm.neg_i, Hm.abs_i, Hm.int_i, Hm.int_b, Hm.len_l, Hm.len_t, Hm.ix_l, Hm.ix_t, Hm.tru_b, Hm.tru_i, Hm.own_i, Hm.ownV_v, Hm.lst_, Hm.tup_, Hm.sz_, Hm.join_s, Hm.join_n, Hm.at_0, Hm.at_1, Hm.at_2, Hm.at_3, Hm.at_4, Hm.at_5, Hm.at_6, Hm.at_7, Hm.at_8, Hm.at_9, Hm.at_10, Hm.at_11, Hm.at_12, Hm.at_13, Hm.at_14, Hm.at_15, Hm.at_16, Hm.at_17, Hm.at_18, Hm.at_19, Hm.at_20, Hm.at_21, Hm.at_22, Hm.at_23, Hm.at_24, Hm.at_25, Hm.ix5_0, Hm.ix5_1, Hm.ix5_2, Hm.ix5_3, Hm.ix5_4, Hm.pow_18, Hm.pow_39, Hm.pow_40, held, D.isC, isCs, E.pu, D.isNon, Cn.d, List.length_cons, List.length_nil, List.getElem?_cons_zero, List.getElem?_cons_succ, List.getElem?_nil, List.set_cons_zero, List.set_cons_succ, List.map_cons, List.map_nil, Option.map_some, Option.map_none, decide_eq_true_eq, Bool.true_and, Bool.and_true, Bool.false_and, Bool.and_false, Bool.not_true, Bool.not_false, Bool.or_true, Bool.true_or, Bool.or_false, Bool.false_or, or_true, true_or, or_false, false_or, and_true, true_and, Bool.false_eq_true, reduceCtorEq, not_true_eq_false, not_false_eq_true, Nat.reduceAdd, Nat.reduceLT, Nat.zero_add, eq_self, decide_true, decide_false, ↓reduceIte, Option.isSome_some, Option.isSome_none, ne_eq, Int.reduceNeg, Int.reducePow, Int.reduceLT, Int.reduceLE, Int.reduceEq, Int.reduceSub, Int.reduceAdd, Int.reduceMul, Nat.reducePow, Nat.reduceLeDiff]
  rw [go_step rfl e0, go_step rfl e1]
  by_cases h3 : ((one.map D.int).length : Int) < 500
  · have c7 := fun (ρ : Ev) => call_rk (n + 2) true (one ++ [more]) (by rw [List.length_append, List.length_cons, List.length_nil]; omega) ρ
    have c8 := fun (ρ : Ev) => call_due (n + 2) true (one ++ [more]) (by rw [List.length_append, List.length_cons, List.length_nil]; omega) ρ
    have c9 := fun (o o' : Bool) (ρ : Ev) => call_same (n + 1) o o' (rks (one ++ [more])) (by rw [rks_len, List.length_append, List.length_cons, List.length_nil]; omega) ρ
    have f3 := add_1 (zs := one) (z := more) (by omega)
    have e2 : ∃ ρ, S.go (F (n + 3)) [] (b_law.nth (5 + 1 + 1)) [none, some s, some (.lst false (one.map .int)), none, some (.int more), x5, some (.lst true (one.map .int)), some (.lst true ((rks one).map .int))] = .ret (.bl true) ρ := by
      simp only [b_law, Ss.nth, h3, c3, c6, c7, c8, c9, f1, f2, f3, ap_ints, clr_ints, Hm.s_set, Hm.s_for, Hm.as_c, Hm.as_g, Hm.as_v, Hm.as_mv, Hm.as_u, Hm.as_b, Hm.as_ix, Hm.as_sl, Hm.as_ch, Hm.as_tb, Hm.as_ife, Hm.as_tup, Hm.as_lst, Hm.as_call, Hm.as_idx, Hm.as_lc, Hm.as_dE, Hm.as_sv, Hm.as_lr, Hm.go_ch, List.contains_nil, List.contains_cons, Nat.reduceBEq, List.any_cons, List.any_nil, beq_self_eq_true, Hm.go_c, Hm.go_g, Hm.go_v, Hm.go_mv, Hm.go_sv, Hm.go_u, Hm.go_b, Hm.go_ix, Hm.go_sl, Hm.go_tb, Hm.go_ife, Hm.go_tup, Hm.go_lst, Hm.go_call, Hm.go_idx, Hm.go_lc, Hm.go_dE, Hm.go_lr, Hm.tst_an, Hm.tst_or, Hm.tst_nt, Hm.tst_one, Hm.tst_e, Hm.val_an, Hm.val_or, Hm.val_nt, Hm.val_one, Hm.val_e, Hm.eo_no, Hm.eo_yes, Hm.to_no, Hm.to_yes, Hm.es_nil, Hm.es_cons, Hm.as_nil, Hm.as_io, Hm.as_ln, Hm.it_seq, Hm.it_scr, Hm.it_rng, Hm.it_enum, Hm.s_expr, Hm.s_ret, Hm.s_iff, Hm.s_app, Hm.s_put, Hm.s_pass, Hm.s_brk, Hm.s_cnt, Hm.ss_nil, Hm.ss_cons, Hm.kU_1, Hm.kU_2, Hm.kU_3, Hm.kB2_1, Hm.kB2_2, Hm.kB2_3, Hm.kB1_1, Hm.kB1_2, Hm.kB1_3, Hm.kI2_1, Hm.kI2_2, Hm.kI2_3, Hm.kI1_1, Hm.kI1_2, Hm.kI1_3, Hm.kS3_1, Hm.kS3_2, Hm.kS3_3, Hm.kS2_1, Hm.kS2_2, Hm.kS2_3, Hm.kS1_1, Hm.kS1_2, Hm.kS1_3, Hm.kC3_1, Hm.kC3_2, Hm.kC3_3, Hm.kC2'_1, Hm.kC2'_2, Hm.kC2_1, Hm.kC2_2, Hm.kC2_3, Hm.kC1_1, Hm.kC1_2, Hm.kC1_3, Hm.kTb_1, Hm.kTb_2, Hm.kTb_3, Hm.kIf_1, Hm.kIf_2, Hm.kIf_3, Hm.kIf_4, Hm.kTup_1, Hm.kTup_2, Hm.kTup_3, Hm.kLst_1, Hm.kLst_2, Hm.kLst_3, Hm.kCall_1, Hm.kCall_2, Hm.kCall_3, Hm.kX2_1, Hm.kX2_2, Hm.kX2_3, Hm.kX1_1, Hm.kX1_2, Hm.kX1_3, Hm.kL2_1, Hm.kL1_1, Hm.kL1_2, Hm.kL1_3, Hm.kLr_1, Hm.kLr_2, Hm.kLr_3, Hm.kOwn_1, Hm.kOwn_2, Hm.kOwn_3, Hm.kAn_1, Hm.kAn_2, Hm.kAn_3, Hm.kAn_4, Hm.kOr_1, Hm.kOr_2, Hm.kOr_3, Hm.kOr_4, Hm.kNt_1, Hm.kNt_2, Hm.kNt_3, Hm.kTr'_1, Hm.kTr'_2, Hm.kTr_1, Hm.kTr_2, Hm.kTr_3, Hm.kAnV_1, Hm.kAnV_2, Hm.kAnV_3, Hm.kAnV_4, Hm.kOrV_1, Hm.kOrV_2, Hm.kOrV_3, Hm.kOrV_4, Hm.kVl_1, Hm.kVl_2, Hm.kVl_3, Hm.kEo_1, Hm.kEo_2, Hm.kEo_3, Hm.kEs2_1, Hm.kEs2_2, Hm.kEs2_3, Hm.kEs1_1, Hm.kEs1_2, Hm.kEs1_3, Hm.kAs2_1, Hm.kAs2_2, Hm.kAs2_3, Hm.kAs1_1, Hm.kAs1_2, Hm.kAs1_3, Hm.kW_1, Hm.kW_2, Hm.kSq_1, Hm.kSq_2, Hm.kSq_3, Hm.kScr_1, Hm.kScr_2, Hm.kScr_3, Hm.kRg_1, Hm.kRg_2, Hm.kRg_3, Hm.kEn_1, Hm.kEn_2, Hm.kEn_3, Hm.kSet_1, Hm.kSet_2, Hm.kSet_3, Hm.kExp_1, Hm.kExp_2, Hm.kExp_3, Hm.kRet_1, Hm.kRet_2, Hm.kRet_3, Hm.kIff_1, Hm.kIff_2, Hm.kIff_3, Hm.kIff_4, Hm.kAp2_1, Hm.kAp1_1, Hm.kAp1_2, Hm.kAp1_3, Hm.kAp_1, Hm.kPl_1, Hm.kPl_2, Hm.kPd_1, Hm.kPd_2, Hm.kPk_1, Hm.kPk_2, Hm.kP3_1, Hm.kP3_2, Hm.kP2_1, Hm.kP2_2, Hm.kP2_3, Hm.kP1_1, Hm.kP1_2, Hm.kP1_3, Hm.kFor_1, Hm.kFor_2, Hm.kFor_3, Hm.kSeq_1, Hm.kSeq_2, Hm.kSeq_3, Hm.kSeq_4, Hm.kSeq_5, Hm.kSeq_6, Hm.kOp_s, Hm.kOp_n, Hm.kV_1, Hm.kMv_1, Hm.kSv_1, Hm.cr_1, Hm.cr_2, Hm.add_i, Hm.sub_i, Hm.mul_r, Hm.mul_l, Hm.mod_i, Hm.fdiv_i, Hm.lt_i, Hm.le_i, Hm.gt_i, Hm.ge_i, Hm.eq_i, Hm.eq_b, Hm.eq_s, Hm.ne_i, Hm.ne_b, Hm.min_i, Hm.max_i, Hm.isN_, Hm.notN_, Hm.neg_i, Hm.abs_i, Hm.int_i, Hm.int_b, Hm.len_l, Hm.len_t, Hm.ix_l, Hm.ix_t, Hm.tru_b, Hm.tru_i, Hm.own_i, Hm.ownV_v, Hm.lst_, Hm.tup_, Hm.sz_, Hm.join_s, Hm.join_n, Hm.at_0, Hm.at_1, Hm.at_2, Hm.at_3, Hm.at_4, Hm.at_5, Hm.at_6, Hm.at_7, Hm.at_8, Hm.at_9, Hm.at_10, Hm.at_11, Hm.at_12, Hm.at_13, Hm.at_14, Hm.at_15, Hm.at_16, Hm.at_17, Hm.at_18, Hm.at_19, Hm.at_20, Hm.at_21, Hm.at_22, Hm.at_23, Hm.at_24, Hm.at_25, Hm.ix5_0, Hm.ix5_1, Hm.ix5_2, Hm.ix5_3, Hm.ix5_4, Hm.pow_18, Hm.pow_39, Hm.pow_40, held, D.isC, isCs, E.pu, D.isNon, Cn.d, List.length_cons, List.length_nil, List.getElem?_cons_zero, List.getElem?_cons_succ, List.getElem?_nil, List.set_cons_zero, List.set_cons_succ, List.map_cons, List.map_nil, Option.map_some, Option.map_none, decide_eq_true_eq, Bool.true_and, Bool.and_true, Bool.false_and, Bool.and_false, Bool.not_true, Bool.not_false, Bool.or_true, Bool.true_or, Bool.or_false, Bool.false_or, or_true, true_or, or_false, false_or, and_true, true_and, Bool.false_eq_true, reduceCtorEq, not_true_eq_false, not_false_eq_true, Nat.reduceAdd, Nat.reduceLT, Nat.zero_add, eq_self, decide_true, decide_false, ↓reduceIte, Option.isSome_some, Option.isSome_none, ne_eq, Int.reduceNeg, Int.reducePow, Int.reduceLT, Int.reduceLE, Int.reduceEq, Int.reduceSub, Int.reduceAdd, Int.reduceMul, Nat.reducePow, Nat.reduceLeDiff]
      exact ⟨_, rfl⟩
    obtain ⟨ρ, e2⟩ := e2
    exact ⟨ρ, go_ret rfl e2⟩
  · have e2 : S.go (F (n + 3)) [] (b_law.nth (5 + 1 + 1)) [none, some s, some (.lst false (one.map .int)), none, some (.int more), x5, some (.lst true (one.map .int)), some (.lst true ((rks one).map .int))] = .nx [none, some s, some (.lst false (one.map .int)), none, some (.int more), x5, some (.lst true (one.map .int)), some (.lst true ((rks one).map .int))] := by
      simp only [b_law, Ss.nth, h3, Hm.s_set, Hm.s_for, Hm.as_c, Hm.as_g, Hm.as_v, Hm.as_mv, Hm.as_u, Hm.as_b, Hm.as_ix, Hm.as_sl, Hm.as_ch, Hm.as_tb, Hm.as_ife, Hm.as_tup, Hm.as_lst, Hm.as_call, Hm.as_idx, Hm.as_lc, Hm.as_dE, Hm.as_sv, Hm.as_lr, Hm.go_ch, List.contains_nil, List.contains_cons, Nat.reduceBEq, List.any_cons, List.any_nil, beq_self_eq_true, Hm.go_c, Hm.go_g, Hm.go_v, Hm.go_mv, Hm.go_sv, Hm.go_u, Hm.go_b, Hm.go_ix, Hm.go_sl, Hm.go_tb, Hm.go_ife, Hm.go_tup, Hm.go_lst, Hm.go_call, Hm.go_idx, Hm.go_lc, Hm.go_dE, Hm.go_lr, Hm.tst_an, Hm.tst_or, Hm.tst_nt, Hm.tst_one, Hm.tst_e, Hm.val_an, Hm.val_or, Hm.val_nt, Hm.val_one, Hm.val_e, Hm.eo_no, Hm.eo_yes, Hm.to_no, Hm.to_yes, Hm.es_nil, Hm.es_cons, Hm.as_nil, Hm.as_io, Hm.as_ln, Hm.it_seq, Hm.it_scr, Hm.it_rng, Hm.it_enum, Hm.s_expr, Hm.s_ret, Hm.s_iff, Hm.s_app, Hm.s_put, Hm.s_pass, Hm.s_brk, Hm.s_cnt, Hm.ss_nil, Hm.ss_cons, Hm.kU_1, Hm.kU_2, Hm.kU_3, Hm.kB2_1, Hm.kB2_2, Hm.kB2_3, Hm.kB1_1, Hm.kB1_2, Hm.kB1_3, Hm.kI2_1, Hm.kI2_2, Hm.kI2_3, Hm.kI1_1, Hm.kI1_2, Hm.kI1_3, Hm.kS3_1, Hm.kS3_2, Hm.kS3_3, Hm.kS2_1, Hm.kS2_2, Hm.kS2_3, Hm.kS1_1, Hm.kS1_2, Hm.kS1_3, Hm.kC3_1, Hm.kC3_2, Hm.kC3_3, Hm.kC2'_1, Hm.kC2'_2, Hm.kC2_1, Hm.kC2_2, Hm.kC2_3, Hm.kC1_1, Hm.kC1_2, Hm.kC1_3, Hm.kTb_1, Hm.kTb_2, Hm.kTb_3, Hm.kIf_1, Hm.kIf_2, Hm.kIf_3, Hm.kIf_4, Hm.kTup_1, Hm.kTup_2, Hm.kTup_3, Hm.kLst_1, Hm.kLst_2, Hm.kLst_3, Hm.kCall_1, Hm.kCall_2, Hm.kCall_3, Hm.kX2_1, Hm.kX2_2, Hm.kX2_3, Hm.kX1_1, Hm.kX1_2, Hm.kX1_3, Hm.kL2_1, Hm.kL1_1, Hm.kL1_2, Hm.kL1_3, Hm.kLr_1, Hm.kLr_2, Hm.kLr_3, Hm.kOwn_1, Hm.kOwn_2, Hm.kOwn_3, Hm.kAn_1, Hm.kAn_2, Hm.kAn_3, Hm.kAn_4, Hm.kOr_1, Hm.kOr_2, Hm.kOr_3, Hm.kOr_4, Hm.kNt_1, Hm.kNt_2, Hm.kNt_3, Hm.kTr'_1, Hm.kTr'_2, Hm.kTr_1, Hm.kTr_2, Hm.kTr_3, Hm.kAnV_1, Hm.kAnV_2, Hm.kAnV_3, Hm.kAnV_4, Hm.kOrV_1, Hm.kOrV_2, Hm.kOrV_3, Hm.kOrV_4, Hm.kVl_1, Hm.kVl_2, Hm.kVl_3, Hm.kEo_1, Hm.kEo_2, Hm.kEo_3, Hm.kEs2_1, Hm.kEs2_2, Hm.kEs2_3, Hm.kEs1_1, Hm.kEs1_2, Hm.kEs1_3, Hm.kAs2_1, Hm.kAs2_2, Hm.kAs2_3, Hm.kAs1_1, Hm.kAs1_2, Hm.kAs1_3, Hm.kW_1, Hm.kW_2, Hm.kSq_1, Hm.kSq_2, Hm.kSq_3, Hm.kScr_1, Hm.kScr_2, Hm.kScr_3, Hm.kRg_1, Hm.kRg_2, Hm.kRg_3, Hm.kEn_1, Hm.kEn_2, Hm.kEn_3, Hm.kSet_1, Hm.kSet_2, Hm.kSet_3, Hm.kExp_1, Hm.kExp_2, Hm.kExp_3, Hm.kRet_1, Hm.kRet_2, Hm.kRet_3, Hm.kIff_1, Hm.kIff_2, Hm.kIff_3, Hm.kIff_4, Hm.kAp2_1, Hm.kAp1_1, Hm.kAp1_2, Hm.kAp1_3, Hm.kAp_1, Hm.kPl_1, Hm.kPl_2, Hm.kPd_1, Hm.kPd_2, Hm.kPk_1, Hm.kPk_2, Hm.kP3_1, Hm.kP3_2, Hm.kP2_1, Hm.kP2_2, Hm.kP2_3, Hm.kP1_1, Hm.kP1_2, Hm.kP1_3, Hm.kFor_1, Hm.kFor_2, Hm.kFor_3, Hm.kSeq_1, Hm.kSeq_2, Hm.kSeq_3, Hm.kSeq_4, Hm.kSeq_5, Hm.kSeq_6, Hm.kOp_s, Hm.kOp_n, Hm.kV_1, Hm.kMv_1, Hm.kSv_1, Hm.cr_1, Hm.cr_2, Hm.add_i, Hm.sub_i, Hm.mul_r, Hm.mul_l, Hm.mod_i, Hm.fdiv_i, Hm.lt_i, Hm.le_i, Hm.gt_i, Hm.ge_i, Hm.eq_i, Hm.eq_b, Hm.eq_s, Hm.ne_i, Hm.ne_b, Hm.min_i, Hm.max_i, Hm.isN_, Hm.notN_, Hm.neg_i, Hm.abs_i, Hm.int_i, Hm.int_b, Hm.len_l, Hm.len_t, Hm.ix_l, Hm.ix_t, Hm.tru_b, Hm.tru_i, Hm.own_i, Hm.ownV_v, Hm.lst_, Hm.tup_, Hm.sz_, Hm.join_s, Hm.join_n, Hm.at_0, Hm.at_1, Hm.at_2, Hm.at_3, Hm.at_4, Hm.at_5, Hm.at_6, Hm.at_7, Hm.at_8, Hm.at_9, Hm.at_10, Hm.at_11, Hm.at_12, Hm.at_13, Hm.at_14, Hm.at_15, Hm.at_16, Hm.at_17, Hm.at_18, Hm.at_19, Hm.at_20, Hm.at_21, Hm.at_22, Hm.at_23, Hm.at_24, Hm.at_25, Hm.ix5_0, Hm.ix5_1, Hm.ix5_2, Hm.ix5_3, Hm.ix5_4, Hm.pow_18, Hm.pow_39, Hm.pow_40, held, D.isC, isCs, E.pu, D.isNon, Cn.d, List.length_cons, List.length_nil, List.getElem?_cons_zero, List.getElem?_cons_succ, List.getElem?_nil, List.set_cons_zero, List.set_cons_succ, List.map_cons, List.map_nil, Option.map_some, Option.map_none, decide_eq_true_eq, Bool.true_and, Bool.and_true, Bool.false_and, Bool.and_false, Bool.not_true, Bool.not_false, Bool.or_true, Bool.true_or, Bool.or_false, Bool.false_or, or_true, true_or, or_false, false_or, and_true, true_and, Bool.false_eq_true, reduceCtorEq, not_true_eq_false, not_false_eq_true, Nat.reduceAdd, Nat.reduceLT, Nat.zero_add, eq_self, decide_true, decide_false, ↓reduceIte, Option.isSome_some, Option.isSome_none, ne_eq, Int.reduceNeg, Int.reducePow, Int.reduceLT, Int.reduceLE, Int.reduceEq, Int.reduceSub, Int.reduceAdd, Int.reduceMul, Nat.reducePow, Nat.reduceLeDiff]
    have e3 : ∃ ρ, S.go (F (n + 3)) [] (b_law.nth (5 + 1 + 1 + 1)) [none, some s, some (.lst false (one.map .int)), none, some (.int more), x5, some (.lst true (one.map .int)), some (.lst true ((rks one).map .int))] = .ret (.bl true) ρ := by
      simp only [b_law, Ss.nth, c3, c6, f1, clr_ints, Hm.s_set, Hm.s_for, Hm.as_c, Hm.as_g, Hm.as_v, Hm.as_mv, Hm.as_u, Hm.as_b, Hm.as_ix, Hm.as_sl, Hm.as_ch, Hm.as_tb, Hm.as_ife, Hm.as_tup, Hm.as_lst, Hm.as_call, Hm.as_idx, Hm.as_lc, Hm.as_dE, Hm.as_sv, Hm.as_lr, Hm.go_ch, List.contains_nil, List.contains_cons, Nat.reduceBEq, List.any_cons, List.any_nil, beq_self_eq_true, Hm.go_c, Hm.go_g, Hm.go_v, Hm.go_mv, Hm.go_sv, Hm.go_u, Hm.go_b, Hm.go_ix, Hm.go_sl, Hm.go_tb, Hm.go_ife, Hm.go_tup, Hm.go_lst, Hm.go_call, Hm.go_idx, Hm.go_lc, Hm.go_dE, Hm.go_lr, Hm.tst_an, Hm.tst_or, Hm.tst_nt, Hm.tst_one, Hm.tst_e, Hm.val_an, Hm.val_or, Hm.val_nt, Hm.val_one, Hm.val_e, Hm.eo_no, Hm.eo_yes, Hm.to_no, Hm.to_yes, Hm.es_nil, Hm.es_cons, Hm.as_nil, Hm.as_io, Hm.as_ln, Hm.it_seq, Hm.it_scr, Hm.it_rng, Hm.it_enum, Hm.s_expr, Hm.s_ret, Hm.s_iff, Hm.s_app, Hm.s_put, Hm.s_pass, Hm.s_brk, Hm.s_cnt, Hm.ss_nil, Hm.ss_cons, Hm.kU_1, Hm.kU_2, Hm.kU_3, Hm.kB2_1, Hm.kB2_2, Hm.kB2_3, Hm.kB1_1, Hm.kB1_2, Hm.kB1_3, Hm.kI2_1, Hm.kI2_2, Hm.kI2_3, Hm.kI1_1, Hm.kI1_2, Hm.kI1_3, Hm.kS3_1, Hm.kS3_2, Hm.kS3_3, Hm.kS2_1, Hm.kS2_2, Hm.kS2_3, Hm.kS1_1, Hm.kS1_2, Hm.kS1_3, Hm.kC3_1, Hm.kC3_2, Hm.kC3_3, Hm.kC2'_1, Hm.kC2'_2, Hm.kC2_1, Hm.kC2_2, Hm.kC2_3, Hm.kC1_1, Hm.kC1_2, Hm.kC1_3, Hm.kTb_1, Hm.kTb_2, Hm.kTb_3, Hm.kIf_1, Hm.kIf_2, Hm.kIf_3, Hm.kIf_4, Hm.kTup_1, Hm.kTup_2, Hm.kTup_3, Hm.kLst_1, Hm.kLst_2, Hm.kLst_3, Hm.kCall_1, Hm.kCall_2, Hm.kCall_3, Hm.kX2_1, Hm.kX2_2, Hm.kX2_3, Hm.kX1_1, Hm.kX1_2, Hm.kX1_3, Hm.kL2_1, Hm.kL1_1, Hm.kL1_2, Hm.kL1_3, Hm.kLr_1, Hm.kLr_2, Hm.kLr_3, Hm.kOwn_1, Hm.kOwn_2, Hm.kOwn_3, Hm.kAn_1, Hm.kAn_2, Hm.kAn_3, Hm.kAn_4, Hm.kOr_1, Hm.kOr_2, Hm.kOr_3, Hm.kOr_4, Hm.kNt_1, Hm.kNt_2, Hm.kNt_3, Hm.kTr'_1, Hm.kTr'_2, Hm.kTr_1, Hm.kTr_2, Hm.kTr_3, Hm.kAnV_1, Hm.kAnV_2, Hm.kAnV_3, Hm.kAnV_4, Hm.kOrV_1, Hm.kOrV_2, Hm.kOrV_3, Hm.kOrV_4, Hm.kVl_1, Hm.kVl_2, Hm.kVl_3, Hm.kEo_1, Hm.kEo_2, Hm.kEo_3, Hm.kEs2_1, Hm.kEs2_2, Hm.kEs2_3, Hm.kEs1_1, Hm.kEs1_2, Hm.kEs1_3, Hm.kAs2_1, Hm.kAs2_2, Hm.kAs2_3, Hm.kAs1_1, Hm.kAs1_2, Hm.kAs1_3, Hm.kW_1, Hm.kW_2, Hm.kSq_1, Hm.kSq_2, Hm.kSq_3, Hm.kScr_1, Hm.kScr_2, Hm.kScr_3, Hm.kRg_1, Hm.kRg_2, Hm.kRg_3, Hm.kEn_1, Hm.kEn_2, Hm.kEn_3, Hm.kSet_1, Hm.kSet_2, Hm.kSet_3, Hm.kExp_1, Hm.kExp_2, Hm.kExp_3, Hm.kRet_1, Hm.kRet_2, Hm.kRet_3, Hm.kIff_1, Hm.kIff_2, Hm.kIff_3, Hm.kIff_4, Hm.kAp2_1, Hm.kAp1_1, Hm.kAp1_2, Hm.kAp1_3, Hm.kAp_1, Hm.kPl_1, Hm.kPl_2, Hm.kPd_1, Hm.kPd_2, Hm.kPk_1, Hm.kPk_2, Hm.kP3_1, Hm.kP3_2, Hm.kP2_1, Hm.kP2_2, Hm.kP2_3, Hm.kP1_1, Hm.kP1_2, Hm.kP1_3, Hm.kFor_1, Hm.kFor_2, Hm.kFor_3, Hm.kSeq_1, Hm.kSeq_2, Hm.kSeq_3, Hm.kSeq_4, Hm.kSeq_5, Hm.kSeq_6, Hm.kOp_s, Hm.kOp_n, Hm.kV_1, Hm.kMv_1, Hm.kSv_1, Hm.cr_1, Hm.cr_2, Hm.add_i, Hm.sub_i, Hm.mul_r, Hm.mul_l, Hm.mod_i, Hm.fdiv_i, Hm.lt_i, Hm.le_i, Hm.gt_i, Hm.ge_i, Hm.eq_i, Hm.eq_b, Hm.eq_s, Hm.ne_i, Hm.ne_b, Hm.min_i, Hm.max_i, Hm.isN_, Hm.notN_, Hm.neg_i, Hm.abs_i, Hm.int_i, Hm.int_b, Hm.len_l, Hm.len_t, Hm.ix_l, Hm.ix_t, Hm.tru_b, Hm.tru_i, Hm.own_i, Hm.ownV_v, Hm.lst_, Hm.tup_, Hm.sz_, Hm.join_s, Hm.join_n, Hm.at_0, Hm.at_1, Hm.at_2, Hm.at_3, Hm.at_4, Hm.at_5, Hm.at_6, Hm.at_7, Hm.at_8, Hm.at_9, Hm.at_10, Hm.at_11, Hm.at_12, Hm.at_13, Hm.at_14, Hm.at_15, Hm.at_16, Hm.at_17, Hm.at_18, Hm.at_19, Hm.at_20, Hm.at_21, Hm.at_22, Hm.at_23, Hm.at_24, Hm.at_25, Hm.ix5_0, Hm.ix5_1, Hm.ix5_2, Hm.ix5_3, Hm.ix5_4, Hm.pow_18, Hm.pow_39, Hm.pow_40, held, D.isC, isCs, E.pu, D.isNon, Cn.d, List.length_cons, List.length_nil, List.getElem?_cons_zero, List.getElem?_cons_succ, List.getElem?_nil, List.set_cons_zero, List.set_cons_succ, List.map_cons, List.map_nil, Option.map_some, Option.map_none, decide_eq_true_eq, Bool.true_and, Bool.and_true, Bool.false_and, Bool.and_false, Bool.not_true, Bool.not_false, Bool.or_true, Bool.true_or, Bool.or_false, Bool.false_or, or_true, true_or, or_false, false_or, and_true, true_and, Bool.false_eq_true, reduceCtorEq, not_true_eq_false, not_false_eq_true, Nat.reduceAdd, Nat.reduceLT, Nat.zero_add, eq_self, decide_true, decide_false, ↓reduceIte, Option.isSome_some, Option.isSome_none, ne_eq, Int.reduceNeg, Int.reducePow, Int.reduceLT, Int.reduceLE, Int.reduceEq, Int.reduceSub, Int.reduceAdd, Int.reduceMul, Nat.reducePow, Nat.reduceLeDiff]
      exact ⟨_, rfl⟩
    obtain ⟨ρ, e3⟩ := e3
    exact ⟨ρ, (go_step rfl e2).trans (go_ret rfl e3)⟩
theorem law_true : ∀ ns : List Int, ns.length ≤ 63 → (∀ z ∈ ns, PySem.Builtin.Int.intBits z ≤ 1048576) → ∃ fin, Hm.call (Lw.fs.map Hm.DfT.d) 20 13 [.scr ns] = .ok (.bl true) fin := by
  intro ns hl _
  show ∃ fin, F (19 + 1) 13 [.scr ns] = .ok (.bl true) fin
  obtain ⟨s, one, two, more, e1, h1, h2⟩ := law_1 13 ns hl
  obtain ⟨x5, x6, x7, e2⟩ := law_2 16 s one two more h1 h2
  obtain ⟨ρ, e3⟩ := law_3 16 s one more h1 x5 x6 x7
  rw [cl13, Df.run_eq _ _ _ rfl]
  refine ⟨finOf d_law ρ, ?_⟩
  show (Ss.go (F 19) [] (b_law.dr 0) [some (.scr ns), none, none, none, none, none, none, none]).toCR d_law = _
  rw [e1, e2, e3]
  rfl
end Lw
end
section
set_option Elab.async false
set_option linter.all false
set_option maxRecDepth 100000
set_option maxHeartbeats 0
open PySem PySem.W PySem.Calls PyProof.Rows
theorem PySem.Challenge.cw_humphollow_k02_ranks_holds : PySem.Challenge.rw_humphollow_k02_ranks.Holds := by
  w_on; o_law
  refine HandSHeadRun.head_any (r := OpenLaw.row PySem.Challenge.rw_humphollow_k02_ranks) (q := view (OpenLaw.row PySem.Challenge.rw_humphollow_k02_ranks).prog [15]) (H := Lw.hk) (ob := Lw.ob) (M := 6000) (loose := Lw.loose) (d := HandSHeadRun.topDef (OpenLaw.row PySem.Challenge.rw_humphollow_k02_ranks).prog 15) (kwd := []) Lw.ob_eq
    (by kernel_rfl) (fun s => by kernel_rfl) Lw.run (by kernel_rfl) (by kernel_rfl) (by kernel_rfl) (by rfl) (by first | assumption | decide +kernel) (by decide +kernel) ⟨rfl, rfl, rfl, rfl, rfl, by decide +kernel⟩ ?hw ?hc
  case hw => w_witness2
  case hc =>
    exact Hm.law_end (l := PySem.Challenge.rw_humphollow_k02_ranks) (n := 63) (k := 19) (li := 13) (t := Lw.tab) (fs := Lw.fs) (lf := Lw.f_law) (x := "_law_script") rfl (by decide) (by kernel_rfl) ⟨rfl, by decide, by decide⟩ (fun w h Y => Y) rfl Lw.ok Lw.bds rfl rfl rfl (by kernel_rfl) Lw.law_true
end
