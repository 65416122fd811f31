import PyProof.Rows.All
import HandS.ForMost
import HandS.EndBits
import HandS.Exc
import HandS.ExcOwn
import HandS.WordsExc
import HandS.TupAny
import HandS.Flow
import HandS.Lambda
import HandS.TupMul
import HandS.IsInst
import HandS.Text
import HandS.Style
import HandS.Conv
import HandS.Wide
import HandS.NoneIn
import HandS.Iter
import HandS.Comp
import HandS.Dict
import KE.GoesMore
import HandS.More
import PyProof.DictDisplay
import PyProof.DictUpdate
import KE.KDictPairs
import HandS.SortRule
import PyProof.Rows.SortKeyStr
import HandS.Zip
import HandS.ListItems
import KE.KExcInit
import HandS.ExcInit
import HandS.ExcIs
import HandS.ExcField
import KE.KTryMore
import HandS.ExcValue
import KE.KExcIs
import HandS.EndTab
import KE.DataFind
import HandS.Deep
import HandS.SortKw
import KE.DataMinMax
import PyProof.Rows.TupReads
import PyProof.Rows.Shapes
import HandS.List
import PySem.Challenge.RW_rewindplan_k42_programs_known
set_option Elab.async false
set_option linter.all false
set_option maxRecDepth 100000
/-! A layer over the hand layer: values as data, names as data, one rule a construct; what a def does is a function over data (W: a wish transformer). -/
namespace PL
open PySem PySem.Spec PyProof.Rows L2

/-- data -/
inductive D where
  | non | bl (b : Bool) | int (i : Int) | str (x : Str) | lst (xs : List D) | tup (xs : List D) | dic (kvs : List (Key × D))

/-- data, or an object that is changed: a list, a dict -/
inductive Ob where
  | d (x : D) | o (a : Addr)
inductive Nd where
  | lst (xs : List Ob) | dic (kvs : List (Key × Ob))
/-- how many draws there were at most; what the objects hold that are changed -/
structure Nt where
  n : Nat
  μ : Addr → Option Nd

/-- an error: its class's name, its fields -/
abbrev Exc := Str × List (Str × D)

abbrev n0 : Nt := ⟨0, fun _ => none⟩
abbrev W (α : Type) := Nt → (α → Nt → Prop) → (Exc → Nt → Prop) → Prop
section
variable {α β : Type}
def ret (a : α) : W α := fun n P _ => P a n
def bnd (m : W α) (f : α → W β) : W β := fun n P X => m n (fun a k => f a k P X) X
def stuck : W α := fun _ _ _ => False
def rse (e : Exc) : W α := fun n _ X => X e n
def grd (p : Prop) (m : W α) : W α := fun n P X => p ∧ m n P X
end

/-- what a name holds: nothing yet, data that stays, a list or dict of the def's own, the source of draws, an error that was caught, a lambda (its object, its code, its maker's names, what of them is data) -/
inductive SV where
  | un | d (x : D) | own (xs : List D) | ownK (kvs : List (Key × D)) | pen | exc (x : Exc) | lam (f c : Addr) (q : Str) (σ : L2.St) (ds : List (Option D)) | o (a : Addr)
abbrev Env := List SV
def SV.isOwn : SV → Bool
  | .own _ => true
  | .ownK _ => true
  | _ => false
def SV.bor : SV → SV
  | .own xs => .d (.lst xs)
  | .ownK kvs => .d (.dic kvs)
  | s => s
def bor (ρ : Env) : Env := ρ.map SV.bor

/-- a tuple of the written part -/
def WrT (K : PySem.W.Frag) (a : Addr) (xs : List V) : Prop :=
  ∃ (o : Obj) (its : Array Value) (n : Nat), K.lookup a = some o ∧ o.cls = .type "tuple" ∧ o.dict = none ∧ o.data = .seq its n ∧ its.size ≤ sizeLine ∧ Vals xs its.toList
def RdL (S : Addr → Prop) (H : Hp) (a : Addr) (xs : List V) : Prop := S a ∧ H a = some (.lst xs)
/-- a tuple without a dict of its own -/
def PlT (H : Hp) (a : Addr) (xs : List V) : Prop := ∃ o, H a = some (.frz o (.tup xs)) ∧ o.dict = none
def RdT (K : PySem.W.Frag) (S : Addr → Prop) (H : Hp) (a : Addr) (xs : List V) : Prop := (S a ∧ PlT H a xs) ∨ WrT K a xs

mutual
def Rep (K : PySem.W.Frag) (S : Addr → Prop) (H : Hp) : D → V → Prop
  | .non, v => v = .non
  | .bl b, v => v = .bl b
  | .int i, v => v = .int i
  | .str x, v => v = .str x ∧ x.length ≤ sizeLine
  | .lst xs, v => ∃ a vs, v = .ref a ∧ RdL S H a vs ∧ xs.length ≤ sizeLine ∧ Reps K S H xs vs
  | .tup xs, v => ∃ a vs, v = .ref a ∧ RdT K S H a vs ∧ xs.length ≤ sizeLine ∧ Reps K S H xs vs
  | .dic kvs, v => ∃ a kws, v = .ref a ∧ (S a ∧ Rd H a (.dK kws)) ∧ RepK K S H kvs kws
def Reps (K : PySem.W.Frag) (S : Addr → Prop) (H : Hp) : List D → List V → Prop
  | [], vs => vs = []
  | x :: xs, vs => ∃ v ws, vs = v :: ws ∧ Rep K S H x v ∧ Reps K S H xs ws
def RepK (K : PySem.W.Frag) (S : Addr → Prop) (H : Hp) : List (Key × D) → List (Key × V) → Prop
  | [], vs => vs = []
  | (k, x) :: xs, vs => ∃ v ws, vs = (k, v) :: ws ∧ Rep K S H x v ∧ RepK K S H xs ws
end

/-- what stays -/
structure Grow (S S' : Addr → Prop) (H H' : Hp) : Prop where
  sub : ∀ a, S a → S' a
  eq : ∀ a, S a → H' a = H a
theorem Grow.refl {S : Addr → Prop} {H : Hp} : Grow S S H H := ⟨fun _ h => h, fun _ _ => rfl⟩
theorem Grow.trans {S S1 S2 : Addr → Prop} {H H1 H2 : Hp} (a : Grow S S1 H H1) (b : Grow S1 S2 H1 H2) : Grow S S2 H H2 :=
  ⟨fun x h => b.sub x (a.sub x h), fun x h => (b.eq x (a.sub x h)).trans (a.eq x h)⟩

section
variable {K : PySem.W.Frag} {S S' : Addr → Prop} {H H' : Hp}
theorem Rd.to {a : Addr} {u : HO} (e : H' a = H a) (h : Rd H a u) : Rd H' a u := by
  unfold Rd at *
  rw [e]
  exact h
theorem RdL.grow {a : Addr} {xs : List V} (g : Grow S S' H H') (h : RdL S H a xs) : RdL S' H' a xs := ⟨g.sub a h.1, (g.eq a h.1).trans h.2⟩
theorem RdT.grow {a : Addr} {xs : List V} (g : Grow S S' H H') (h : RdT K S H a xs) : RdT K S' H' a xs :=
  h.elim (fun ⟨z, o, e, d⟩ => .inl ⟨g.sub a z, o, (g.eq a z).trans e, d⟩) .inr
theorem RdL.sq {a : Addr} {xs : List V} (h : RdL S H a xs) : SqL K H a xs := .inl (.inl h.2)
theorem RdT.sq {a : Addr} {xs : List V} (h : RdT K S H a xs) : SqT K H a xs := h.elim (fun ⟨_, o, e, _⟩ => .inl (.inr ⟨o, e⟩)) fun ⟨o, its, n, h1, h2, _, h3⟩ => .inr ⟨o, its, n, h1, h2, h3⟩
mutual
theorem Rep.grow (g : Grow S S' H H') : ∀ (d : D) (v : V), Rep K S H d v → Rep K S' H' d v
  | .non, _, h => h
  | .bl _, _, h => h
  | .int _, _, h => h
  | .str _, _, h => h
  | .lst xs, _, h => by
    obtain ⟨a, vs, e, r, z, q⟩ := h
    exact ⟨a, vs, e, r.grow g, z, Reps.grow g xs vs q⟩
  | .tup xs, _, h => by
    obtain ⟨a, vs, e, r, z, q⟩ := h
    exact ⟨a, vs, e, r.grow g, z, Reps.grow g xs vs q⟩
  | .dic kvs, _, h => by
    obtain ⟨a, kws, e, ⟨r, r2⟩, q⟩ := h
    exact ⟨a, kws, e, ⟨g.sub a r, Rd.to (g.eq a r) r2⟩, RepK.grow g kvs kws q⟩
theorem Reps.grow (g : Grow S S' H H') : ∀ (xs : List D) (vs : List V), Reps K S H xs vs → Reps K S' H' xs vs
  | [], _, h => h
  | x :: xs, _, h => by
    obtain ⟨v, ws, e, r, q⟩ := h
    exact ⟨v, ws, e, Rep.grow g x v r, Reps.grow g xs ws q⟩
theorem RepK.grow (g : Grow S S' H H') : ∀ (xs : List (Key × D)) (vs : List (Key × V)), RepK K S H xs vs → RepK K S' H' xs vs
  | [], _, h => h
  | (k, x) :: xs, _, h => by
    obtain ⟨v, ws, e, r, q⟩ := h
    exact ⟨v, ws, e, Rep.grow g x v r, RepK.grow g xs ws q⟩
end
theorem Reps.len : ∀ {xs : List D} {vs : List V}, Reps K S H xs vs → vs.length = xs.length
  | [], _, h => by
    have e : _ = [] := h
    rw [e]
    rfl
  | _ :: xs, _, h => by
    obtain ⟨v, ws, rfl, _, q⟩ := h
    show ws.length + 1 = xs.length + 1
    rw [Reps.len q]
theorem Reps.get : ∀ {xs : List D} {vs : List V} {i : Nat} {v : V}, Reps K S H xs vs → vs[i]? = some v → ∃ x, xs[i]? = some x ∧ Rep K S H x v
  | [], _, i, v, h, e => by
    have e1 : _ = [] := h
    rw [e1] at e
    cases e
  | x :: xs, _, 0, v, h, e => by
    obtain ⟨w, ws, rfl, r, _⟩ := h
    cases e
    exact ⟨x, rfl, r⟩
  | x :: xs, _, i + 1, v, h, e => by
    obtain ⟨w, ws, rfl, _, q⟩ := h
    exact Reps.get (i := i) q e
theorem Reps.at : ∀ {xs : List D} {vs : List V} {i : Nat} {x : D}, Reps K S H xs vs → xs[i]? = some x → ∃ v, vs[i]? = some v ∧ Rep K S H x v
  | [], _, i, x, h, e => by cases e
  | y :: xs, _, 0, x, h, e => by
    obtain ⟨w, ws, rfl, r, _⟩ := h
    cases e
    exact ⟨w, rfl, r⟩
  | y :: xs, _, i + 1, x, h, e => by
    obtain ⟨w, ws, rfl, _, q⟩ := h
    exact Reps.at (i := i) q e
theorem Reps.app : ∀ {xs ys : List D} {vs ws : List V}, Reps K S H xs vs → Reps K S H ys ws → Reps K S H (xs ++ ys) (vs ++ ws)
  | [], ys, vs, ws, h, q => by
    have e : vs = [] := h
    rw [e]
    exact q
  | x :: xs, ys, vs, ws, h, q => by
    obtain ⟨v, us, rfl, r, t⟩ := h
    exact ⟨v, us ++ ws, rfl, r, Reps.app t q⟩
theorem Reps.one {x : D} {v : V} (r : Rep K S H x v) : Reps K S H [x] [v] := ⟨v, [], rfl, r, rfl⟩
theorem Reps.nil : Reps K S H [] [] := rfl
theorem Reps.cons {x : D} {v : V} {xs : List D} {vs : List V} (r : Rep K S H x v) (q : Reps K S H xs vs) : Reps K S H (x :: xs) (v :: vs) := ⟨v, vs, rfl, r, q⟩
theorem Reps.drop : ∀ (n : Nat) {xs : List D} {vs : List V}, Reps K S H xs vs → Reps K S H (xs.drop n) (vs.drop n)
  | 0, _, _, h => h
  | n + 1, [], vs, h => by
    have e : vs = [] := h
    rw [e]
    rfl
  | n + 1, x :: xs, _, h => by
    obtain ⟨v, us, rfl, _, t⟩ := h
    exact Reps.drop n t
theorem Reps.take : ∀ (n : Nat) {xs : List D} {vs : List V}, Reps K S H xs vs → Reps K S H (xs.take n) (vs.take n)
  | 0, _, _, h => rfl
  | n + 1, [], vs, h => by
    have e : vs = [] := h
    rw [e]
    rfl
  | n + 1, x :: xs, _, h => by
    obtain ⟨v, us, rfl, r, t⟩ := h
    exact ⟨v, us.take n, rfl, r, Reps.take n t⟩
theorem Reps.set : ∀ (i : Nat) {xs : List D} {vs : List V} {x : D} {v : V}, Reps K S H xs vs → Rep K S H x v → Reps K S H (xs.set i x) (vs.set i v)
  | _, [], vs, x, v, h, _ => by
    have e : vs = [] := h
    rw [e]
    rfl
  | 0, y :: xs, _, x, v, h, r => by
    obtain ⟨w, us, rfl, _, t⟩ := h
    exact ⟨v, us, rfl, r, t⟩
  | i + 1, y :: xs, _, x, v, h, r => by
    obtain ⟨w, us, rfl, q, t⟩ := h
    exact ⟨w, us.set i v, rfl, q, Reps.set i t r⟩
theorem Reps.rev : ∀ {xs : List D} {vs : List V}, Reps K S H xs vs → Reps K S H xs.reverse vs.reverse
  | [], vs, h => by
    have e : vs = [] := h
    rw [e]
    rfl
  | x :: xs, _, h => by
    obtain ⟨v, us, rfl, r, t⟩ := h
    rw [List.reverse_cons, List.reverse_cons]
    exact Reps.app (Reps.rev t) (Reps.one r)
end

/-- the source of draws: what its two objects hold after at most n draws; the tables of code objects (with the name of the code in them); the module's names -/
structure PenK where
  inv : Hp → Addr → Addr → Nat → Prop
  dep : ∀ {H H' : Hp} {a b : Addr} {n : Nat}, inv H a b n → H' a = H a → H' b = H b → inv H' a b n
  there : ∀ {H : Hp} {a b : Addr} {n : Nat}, inv H a b n → H a ≠ none ∧ H b ≠ none
  isL : ∀ {H : Hp} {a b : Addr} {n : Nat}, inv H a b n → (∃ xs, H a = some (.lst xs)) ∧ ∃ xs, H b = some (.lst xs)
  tab : List (Addr × Str) := []
  mg : Str → Option Value := fun _ => none
  chg : Bool := false

/-- an error as it lies in the heap -/
def RepX (K : PySem.W.Frag) (mg : Str → Option Value) (S : Addr → Prop) (H : Hp) (x : Exc) (cls : Value) (dd : Option Addr) : Prop :=
  ∃ A : Addr, mg x.1 = some (.ref A) ∧ cls = .ref A ∧ ((x.2 = [] ∧ dd = none) ∨ ∃ d fv, dd = some d ∧ S d ∧ H d = some (.xd fv) ∧ Paired (fun (p : Str × D) (q : Str × V) => p.1 = q.1 ∧ Rep K S H p.2 q.2) x.2 fv)
theorem repX_pair {K : PySem.W.Frag} {S S' : Addr → Prop} {H H' : Hp} (f : ∀ d v, Rep K S H d v → Rep K S' H' d v) : ∀ {xs : List (Str × D)} {fv : List (Str × V)}, Paired (fun (p : Str × D) (q : Str × V) => p.1 = q.1 ∧ Rep K S H p.2 q.2) xs fv → Paired (fun (p : Str × D) (q : Str × V) => p.1 = q.1 ∧ Rep K S' H' p.2 q.2) xs fv
  | _, _, .nil => .nil
  | _, _, .cons h t => .cons ⟨h.1, f _ _ h.2⟩ (repX_pair f t)
theorem RepX.grow {K : PySem.W.Frag} {mg : Str → Option Value} {S S' : Addr → Prop} {H H' : Hp} {x : Exc} {cls : Value} {dd : Option Addr} (g : Grow S S' H H') (h : RepX K mg S H x cls dd) : RepX K mg S' H' x cls dd := by
  obtain ⟨A, h1, h2, h3⟩ := h
  refine ⟨A, h1, h2, h3.imp id fun ⟨d, fv, e, hs, hd, p⟩ => ⟨d, fv, e, g.sub d hs, (g.eq d hs).trans hd, repX_pair (fun d v r => Rep.grow g d v r) p⟩⟩
/-- an error object that was caught -/
def ErrO (cls : Value) (dd : Option Addr) (a : Addr) : HO := .ext fun h => ∃ (oe : Obj) (vs : Array Value), h.get? a = some oe ∧ Zc cls dd oe ∧ oe.data = .fields vs
/-- a table of code objects: those that it tells stay -/
def TabI (S : Addr → Prop) (H : Hp) (P : Addr) (q : Str) : Prop := ∃ ps : Array Value, H P = some (.tbl ps) ∧ TriplesOk ps.toList ∧ ∀ (pos : Pos) (cv : Value), codeAmong pos ps.toList = some cv → ∃ c, cv = .ref c ∧ S c ∧ H c = some (LamX.CodeO c q)
theorem TabI.grow {S S' : Addr → Prop} {H H' : Hp} {P : Addr} {q : Str} (g : Grow S S' H H') (e : H' P = H P) (h : TabI S H P q) : TabI S' H' P q := by
  obtain ⟨ps, h1, h2, h3⟩ := h
  refine ⟨ps, e.trans h1, h2, fun pos cv z => ?_⟩
  obtain ⟨c, e1, e2, e3⟩ := h3 pos cv z
  exact ⟨c, e1, g.sub c e2, (g.eq c e2).trans e3⟩
theorem TabI.there {S : Addr → Prop} {H : Hp} {P : Addr} {q : Str} (h : TabI S H P q) : H P ≠ none := by
  obtain ⟨ps, h1, _⟩ := h
  rw [h1]
  exact fun z => nomatch z
/-- what a lambda's body may read -/
def LamOk (K : PySem.W.Frag) (S : Addr → Prop) (H : Hp) (c : Addr) (q : Str) (σ : L2.St) (ds : List (Option D)) : Prop :=
  S c ∧ H c = some (LamX.CodeO c q) ∧ ds.length = σ.length ∧ ∀ (i : Nat) (x : D), ds[i]? = some (some x) → ∃ v, (σ[i]?).join = some v ∧ Rep K S H x v
theorem LamOk.grow {K : PySem.W.Frag} {S S' : Addr → Prop} {H H' : Hp} {c : Addr} {q : Str} {σ : L2.St} {ds : List (Option D)} (g : Grow S S' H H') (h : LamOk K S H c q σ ds) : LamOk K S' H' c q σ ds := by
  obtain ⟨h1, h2, h3, h4⟩ := h
  refine ⟨g.sub c h1, (g.eq c h1).trans h2, h3, fun i x e => ?_⟩
  obtain ⟨v, e1, r⟩ := h4 i x e
  exact ⟨v, e1, Rep.grow g x v r⟩

def D.sc : D → Bool
  | .non => true
  | .bl _ => true
  | .int _ => true
  | .str _ => true
  | _ => false
theorem Rep.sc {K : PySem.W.Frag} {S S' : Addr → Prop} {H H' : Hp} {d : D} {v : V} (h : d.sc = true) (r : Rep K S H d v) : Rep K S' H' d v := by
  cases d <;> first | exact r | cases h
/-- data in an object that is changed: without parts -/
def RepO (K : PySem.W.Frag) (S : Addr → Prop) (H : Hp) : Ob → V → Prop
  | .d x, v => x.sc = true ∧ Rep K S H x v
  | .o a, v => v = .ref a
theorem RepO.move {K : PySem.W.Frag} {S S' : Addr → Prop} {H H' : Hp} {x : Ob} {v : V} (h : RepO K S H x v) : RepO K S' H' x v := by
  cases x with
  | d x => exact ⟨h.1, h.2.sc h.1⟩
  | o a => exact h
/-- what an object that is changed holds -/
def NdOk (K : PySem.W.Frag) (S : Addr → Prop) (H : Hp) (a : Addr) : Nd → Prop
  | .lst xs => ∃ vs, H a = some (.lst vs) ∧ xs.length ≤ sizeLine ∧ Paired (RepO K S H) xs vs
  | .dic kvs => ∃ kws, H a = some (.dK kws) ∧ Paired (fun (p : Key × Ob) (q : Key × V) => p.1 = q.1 ∧ RepO K S H p.2 q.2) kvs kws
theorem paired_imp {α β : Type} {r s : α → β → Prop} (f : ∀ a b, r a b → s a b) : ∀ {xs : List α} {ys : List β}, Paired r xs ys → Paired s xs ys
  | _, _, .nil => .nil
  | _, _, .cons h t => .cons (f _ _ h) (paired_imp f t)
theorem NdOk.move {K : PySem.W.Frag} {S S' : Addr → Prop} {H H' : Hp} {a : Addr} {nd : Nd} (e : H' a = H a) (h : NdOk K S H a nd) : NdOk K S' H' a nd := by
  cases nd with
  | lst xs => obtain ⟨vs, e1, z, r⟩ := h; exact ⟨vs, e.trans e1, z, paired_imp (fun _ _ h => h.move) r⟩
  | dic kvs => obtain ⟨kws, e1, r⟩ := h; exact ⟨kws, e.trans e1, paired_imp (fun _ _ h => ⟨h.1, h.2.move⟩) r⟩
theorem NdOk.grow {K : PySem.W.Frag} {S S' : Addr → Prop} {H H' : Hp} {a : Addr} {nd : Nd} (g : Grow S S' H H') (e : H' a = H a) (h : NdOk K S H a nd) : NdOk K S' H' a nd := h.move e
theorem NdOk.there {K : PySem.W.Frag} {S : Addr → Prop} {H : Hp} {a : Addr} {nd : Nd} (h : NdOk K S H a nd) : H a ≠ none := by
  cases nd with
  | lst xs => obtain ⟨vs, e1, _⟩ := h; rw [e1]; exact fun z => nomatch z
  | dic kvs => obtain ⟨kws, e1, _⟩ := h; rw [e1]; exact fun z => nomatch z
/-- the ghost: what stays, the heap at the entry, the source of draws, what is never among what stays -/
structure C where
  S : Addr → Prop
  H0 : Hp
  pen : Option (Addr × Addr)
  no : Addr → Prop
  mu : Addr → Prop := fun _ => False
/-- the source of draws and the tables -/
def PenK.pent (G : PenK) (c : C) (a : Addr) : Prop := (∃ p, c.pen = some p ∧ (a = p.1 ∨ a = p.2)) ∨ ∃ q ∈ G.tab, a = q.1
/-- what may be changed beneath the frame -/
def PenK.pens (G : PenK) (c : C) (a : Addr) : Prop := G.pent c a ∨ c.mu a
abbrev C.to (c : C) (S' : Addr → Prop) : C := { c with S := S' }
def Young (c : C) (n : Nt) (a : Addr) : Prop := ¬ c.S a ∧ c.H0 a = none ∧ n.μ a = none
def slot (σ : L2.St) (i : Nat) : Option V := (σ[i]?).join

def SlotOk (G : PenK) (K : PySem.W.Frag) (c : C) (H : Hp) : SV → Option V → Prop
  | .un, _ => True
  | .d x, o => ∃ v, o = some v ∧ Rep K c.S H x v
  | .own xs, o => ∃ a vs, o = some (.ref a) ∧ H a = some (.lst vs) ∧ xs.length ≤ sizeLine ∧ Reps K c.S H xs vs
  | .ownK kvs, o => ∃ a kws, o = some (.ref a) ∧ H a = some (.dK kws) ∧ RepK K c.S H kvs kws
  | .pen, o => ∃ p, c.pen = some p ∧ o = some (.ref p.1)
  | .exc x, o => ∃ a cls dd, o = some (.ref a) ∧ c.S a ∧ H a = some (ErrO cls dd a) ∧ RepX K G.mg c.S H x cls dd
  | .lam f b q σ ds, o => o = some (.ref f) ∧ LamOk K c.S H b q σ ds
  | .o a, o => o = some (.ref a)

structure SI (G : PenK) (K : PySem.W.Frag) (c : C) (σ : L2.St) (H : Hp) (ρ : Env) (n : Nt) : Prop where
  len : ρ.length = σ.length
  slots : ∀ i sv, ρ[i]? = some sv → SlotOk G K c H sv (slot σ i)
  own : ∀ i sv a, ρ[i]? = some sv → sv.isOwn = true → slot σ i = some (.ref a) → Young c n a
  apart : ∀ i j sv sv' a, i ≠ j → ρ[i]? = some sv → ρ[j]? = some sv' → sv.isOwn = true → sv'.isOwn = true → slot σ i = some (.ref a) → slot σ j = some (.ref a) → False
  dom : ∀ a, c.S a → H a ≠ none
  fr : ∀ a o, c.H0 a = some o → ¬ G.pens c a → H a = some o
  pen : ∀ p, c.pen = some p → G.inv H p.1 p.2 n.n ∧ ¬ c.S p.1 ∧ ¬ c.S p.2 ∧ c.H0 p.1 ≠ none ∧ c.H0 p.2 ≠ none
  no : ∀ a, c.no a → ¬ c.S a ∧ c.H0 a ≠ none
  tab : ∀ q ∈ G.tab, c.no q.1 ∧ TabI c.S H q.1 q.2
  mu : ∀ a nd, n.μ a = some nd → NdOk K c.S H a nd ∧ ¬ c.S a ∧ (c.mu a ∨ c.H0 a = none) ∧ ¬ G.pent c a
  mu0 : ∀ a, c.mu a → n.μ a ≠ none ∧ c.H0 a ≠ none
  mz : G.chg = false → ∀ a, n.μ a = none

theorem slot_set_same {σ : L2.St} {i : Nat} {o : Option V} (h : i < σ.length) : slot (σ.set i o) i = o := by
  unfold slot
  rw [List.getElem?_set_self h]
  rfl
theorem slot_set_ne {σ : L2.St} {i j : Nat} {o : Option V} (h : i ≠ j) : slot (σ.set i o) j = slot σ j := by
  unfold slot
  rw [List.getElem?_set_ne h]
theorem slot_some {σ : L2.St} {i : Nat} {v : V} (h : slot σ i = some v) : σ[i]? = some (some v) := by
  unfold slot at h
  cases e : σ[i]? with
  | none => rw [e] at h; cases h
  | some o =>
    rw [e] at h
    have h2 : o = some v := h
    rw [h2]

section
variable {G : PenK} {K : PySem.W.Frag} {c : C} {σ : L2.St} {H H' : Hp} {ρ : Env} {n : Nt}
theorem SI.notPen (I : SI G K c σ H ρ n) {a : Addr} (h : c.S a) : ¬ G.pens c a := fun z => by
  rcases z with (⟨p, e, z⟩ | ⟨q, e, z⟩) | z
  · obtain ⟨_, h1, h2, _⟩ := I.pen p e
    rcases z with z | z
    · exact h1 (z ▸ h)
    · exact h2 (z ▸ h)
  · exact (I.no _ (I.tab q e).1).1 (z ▸ h)
  · cases e : n.μ a with
    | none => exact (I.mu0 a z).1 e
    | some nd => exact (I.mu a nd e).2.1 h
/-- what was new at the entry's heap is no source of draws -/
theorem SI.penOld (I : SI G K c σ H ρ n) {a : Addr} (h : c.H0 a = none) : ¬ G.pens c a := fun z => by
  rcases z with (⟨p, e, z⟩ | ⟨q, e, z⟩) | z
  · obtain ⟨_, _, _, h1, h2⟩ := I.pen p e
    rcases z with z | z
    · exact h1 (z ▸ h)
    · exact h2 (z ▸ h)
  · exact (I.no _ (I.tab q e).1).2 (z ▸ h)
  · exact (I.mu0 a z).2 h
/-- a table is none of what stays, nor new -/
theorem SI.tabN (I : SI G K c σ H ρ n) {q : Addr × Str} (h : q ∈ G.tab) : ¬ c.S q.1 ∧ c.H0 q.1 ≠ none ∧ H q.1 ≠ none := ⟨(I.no _ (I.tab q h).1).1, (I.no _ (I.tab q h).1).2, (I.tab q h).2.there⟩
/-- a free address is free at the entry too -/
theorem SI.freeOld (I : SI G K c σ H ρ n) {a : Addr} (h : H a = none) : c.H0 a = none := by
  cases e : c.H0 a with
  | none => rfl
  | some o =>
    by_cases hp : G.pens c a
    · rcases hp with (⟨p, e2, z⟩ | ⟨q, e2, z⟩) | z
      · obtain ⟨k1, k2⟩ := G.there (I.pen p e2).1
        rcases z with z | z
        · rw [z] at h; exact absurd h k1
        · rw [z] at h; exact absurd h k2
      · exact absurd (z ▸ h) (I.tabN e2).2.2
      · cases e : n.μ a with
        | none => exact absurd e (I.mu0 a z).1
        | some nd => exact absurd h (I.mu a nd e).1.there
    · have := I.fr a o e hp
      rw [h] at this
      cases this
theorem SI.freeM (I : SI G K c σ H ρ n) {a : Addr} (h : H a = none) : n.μ a = none := by
  cases e : n.μ a with
  | none => rfl
  | some nd => exact absurd h (I.mu a nd e).1.there
/-- what is changed is none of what stays -/
theorem SI.muS (I : SI G K c σ H ρ n) {a : Addr} (h : n.μ a ≠ none) : ¬ c.S a ∧ H a ≠ none := by
  obtain ⟨nd, e⟩ := Option.ne_none_iff_exists'.mp h
  exact ⟨(I.mu a nd e).2.1, (I.mu a nd e).1.there⟩
theorem SI.freeS (I : SI G K c σ H ρ n) {a : Addr} (h : H a = none) : ¬ c.S a := fun z => I.dom a z h
theorem SlotOk.grow {S' : Addr → Prop} (g : Grow c.S S' H H') {o : Option V} (ho : ∀ a, o = some (.ref a) → sv.isOwn = true → H' a = H a) (h : SlotOk G K c H sv o) : SlotOk G K (c.to S') H' sv o := by
  cases sv with
  | un => trivial
  | d x => obtain ⟨v, e, r⟩ := h; exact ⟨v, e, Rep.grow g x v r⟩
  | own xs => obtain ⟨a, vs, e, r, z, q⟩ := h; exact ⟨a, vs, e, (ho a e rfl).trans r, z, Reps.grow g xs vs q⟩
  | ownK kvs => obtain ⟨a, vs, e, r, q⟩ := h; exact ⟨a, vs, e, (ho a e rfl).trans r, RepK.grow g kvs vs q⟩
  | pen => exact h
  | exc x => obtain ⟨a, cls, dd, e, hs, ha, r⟩ := h; exact ⟨a, cls, dd, e, g.sub a hs, (g.eq a hs).trans ha, r.grow g⟩
  | lam f b q σ ds => exact ⟨h.1, h.2.grow g⟩
  | o a => exact h
/-- a new object is laid and stays -/
theorem SI.laid (I : SI G K c σ H ρ n) {p : Addr} {o : HO} (hp : H p = none) : SI G K (c.to fun a => c.S a ∨ a = p) σ (upd H p o) ρ n ∧ Grow c.S (fun a => c.S a ∨ a = p) H (upd H p o) := by
  have ne : ∀ a, H a ≠ none → a ≠ p := fun a h z => h (z ▸ hp)
  have g : Grow c.S (fun a => c.S a ∨ a = p) H (upd H p o) := ⟨fun _ h => .inl h, fun a h => upd_ne (ne a (I.dom a h))⟩
  refine ⟨⟨I.len, fun i sv e => (I.slots i sv e).grow g (fun a ea ho => upd_ne (ne a ?_)), fun i sv a e ho es => ?_, I.apart, fun a h => ?_, fun a u e hn => ?_, fun q e => ?_, fun a h => ⟨fun z => z.elim (I.no a h).1 fun z => (I.no a h).2 (z ▸ I.freeOld hp), (I.no a h).2⟩, fun q e => ⟨(I.tab q e).1, (I.tab q e).2.grow g (upd_ne (ne _ (I.tabN e).2.2))⟩, fun a nd e => ?_, I.mu0, I.mz⟩, g⟩
  · have h := I.slots i sv e
    cases sv with
    | own xs =>
      obtain ⟨b, vs, e1, r, _⟩ := h
      rw [e1] at ea
      cases ea
      rw [r]; exact fun z => nomatch z
    | ownK kvs =>
      obtain ⟨b, vs, e1, r, _⟩ := h
      rw [e1] at ea
      cases ea
      rw [r]; exact fun z => nomatch z
    | un => cases ho
    | d _ => cases ho
    | pen => cases ho
    | exc _ => cases ho
    | lam _ _ _ _ _ => cases ho
    | o _ => cases ho
  · obtain ⟨h1, h2⟩ := I.own i sv a e ho es
    refine ⟨fun z => z.elim h1 fun z => ?_, h2⟩
    have h := I.slots i sv e
    cases sv with
    | own xs =>
      obtain ⟨b, vs, e1, r, _⟩ := h
      rw [e1] at es
      cases es
      rw [z, hp] at r; cases r
    | ownK kvs =>
      obtain ⟨b, vs, e1, r, _⟩ := h
      rw [e1] at es
      cases es
      rw [z, hp] at r; cases r
    | un => cases ho
    | d _ => cases ho
    | pen => cases ho
    | exc _ => cases ho
    | lam _ _ _ _ _ => cases ho
    | o _ => cases ho
  · by_cases e : a = p
    · rw [e, upd_same]; exact fun z => nomatch z
    · rw [upd_ne e]
      exact I.dom a (h.resolve_right e)
  · have := I.fr a u e hn
    rw [upd_ne (ne a (by rw [this]; exact fun z => nomatch z))]
    exact this
  · obtain ⟨h1, h2, h3, h4, h5⟩ := I.pen q e
    obtain ⟨k1, k2⟩ := G.there h1
    exact ⟨G.dep h1 (upd_ne (ne _ k1)) (upd_ne (ne _ k2)), fun z => z.elim h2 (ne _ k1), fun z => z.elim h3 (ne _ k2), h4, h5⟩
  · obtain ⟨m1, m2, m3, m4⟩ := I.mu a nd e
    exact ⟨m1.grow g (upd_ne (ne _ m1.there)), fun z => z.elim m2 (ne _ m1.there), m3, m4⟩
end
end PL

/-! The layer's judgements, names, constants, operators, statements. -/
namespace PL
open PySem PySem.Spec L2

section
variable (G : PenK) (X : Cx) (Wx : WX)
/-- behind an expression that gives data -/
def Gl1 (c : C) (σ : L2.St) (ρ : Env) (H : Hp) (P : D → Nt → Prop) (Q : VK) : Prop :=
  ∀ d k v S' H', P d k → Grow c.S S' H H' → SI G X.K (c.to S') σ H' ρ k → Rep X.K S' H' d v → Q v H'
/-- .. that gives a new list -/
def FreshAt (c : C) (n : Nt) (σ : L2.St) (ρ : Env) (a : Addr) : Prop := Young c n a ∧ ∀ i sv, ρ[i]? = some sv → sv.isOwn = true → slot σ i ≠ some (.ref a)
def GlO (c : C) (σ : L2.St) (ρ : Env) (H : Hp) (P : List D → Nt → Prop) (Q : VK) : Prop :=
  ∀ xs k a vs S' H', P xs k → Grow c.S S' H H' → SI G X.K (c.to S') σ H' ρ k → H' a = some (.lst vs) → xs.length ≤ sizeLine → Reps X.K S' H' xs vs → FreshAt (c.to S') k σ ρ a → Q (.ref a) H'
/-- .. a test -/
def GlB (c : C) (σ : L2.St) (ρ : Env) (H : Hp) (P : Bool → Nt → Prop) (Q : Bool → Hp → Prop) : Prop :=
  ∀ b k S' H', P b k → Grow c.S S' H H' → SI G X.K (c.to S') σ H' ρ k → Q b H'
/-- .. arguments -/
def GlA (c : C) (σ : L2.St) (ρ : Env) (H : Hp) (P : List D → Nt → Prop) (Q : List V → Hp → Prop) : Prop :=
  ∀ ds k vs S' H', P ds k → Grow c.S S' H H' → SI G X.K (c.to S') σ H' ρ k → Reps X.K S' H' ds vs → Q vs H'
/-- what is wanted of errors -/
def OKx (c : C) (σ : L2.St) (ρ : Env) (H : Hp) (PX : Exc → Nt → Prop) : Prop :=
  ∀ x k S' H' cls dd, PX x k → Grow c.S S' H H' → SI G X.K (c.to S') σ H' ρ k → RepX X.K X.mg S' H' x cls dd → Wx cls dd σ H'
def OKs (c : C) (H : Hp) (PX : Exc → Nt → Prop) : Prop :=
  ∀ x k σ' ρ' S' H' cls dd, PX x k → Grow c.S S' H H' → SI G X.K (c.to S') σ' H' ρ' k → RepX X.K X.mg S' H' x cls dd → Wx cls dd σ' H'

def tE (g : Env → W D) : TE := fun σ H Q => ∃ c ρ n P PX, SI G X.K c σ H ρ n ∧ g ρ n P PX ∧ Gl1 G X c σ ρ H P Q ∧ OKx G X Wx c σ ρ H PX
def tO (g : Env → W (List D)) : TE := fun σ H Q => ∃ c ρ n P PX, SI G X.K c σ H ρ n ∧ g ρ n P PX ∧ GlO G X c σ ρ H P Q ∧ OKx G X Wx c σ ρ H PX
def tT (g : Env → W Bool) : TT := fun σ H Q => ∃ c ρ n P PX, SI G X.K c σ H ρ n ∧ g ρ n P PX ∧ GlB G X c σ ρ H P Q ∧ OKx G X Wx c σ ρ H PX
def tAr (g : Env → W (List D)) : TA := fun σ H Q => ∃ c ρ n P PX, SI G X.K c σ H ρ n ∧ g ρ n P PX ∧ GlA G X c σ ρ H P Q ∧ OKx G X Wx c σ ρ H PX

def E (e : Expr) (g : Env → W D) : Prop := PE X e (tE G X Wx g)
def EO (e : Expr) (g : Env → W (List D)) : Prop := PE X e (tO G X Wx g)
def T (e : Expr) (g : Env → W Bool) : Prop := PT X e (tT G X Wx g)
def A (es : List Expr) (g : Env → W (List D)) : Prop := PA X es (tAr G X Wx g)

/-- how a statement ends -/
inductive Out where
  | nx (ρ : Env) | rt (d : D) (ρ : Env) | bk (ρ : Env) | ct (ρ : Env)
def GlS (c : C) (H : Hp) (P : Out → Nt → Prop) (Dn : Ends) : Prop :=
  (∀ ρ' k σ' S' H', P (.nx ρ') k → Grow c.S S' H H' → SI G X.K (c.to S') σ' H' ρ' k → Dn.nx σ' H') ∧
  (∀ d k v σ' ρ' S' H', P (.rt d ρ') k → Grow c.S S' H H' → SI G X.K (c.to S') σ' H' ρ' k → Rep X.K S' H' d v → Dn.rt v H') ∧
  (∀ ρ' k σ' S' H', P (.bk ρ') k → Grow c.S S' H H' → SI G X.K (c.to S') σ' H' ρ' k → Dn.bk σ' H') ∧
  ∀ ρ' k σ' S' H', P (.ct ρ') k → Grow c.S S' H H' → SI G X.K (c.to S') σ' H' ρ' k → Dn.ct σ' H'
def tS (g : Env → W Out) : TS := fun Dn σ H => ∃ c ρ n P PX, SI G X.K c σ H ρ n ∧ g ρ n P PX ∧ GlS G X c H P Dn ∧ OKs G X Wx c H PX
def St1 (s : Stmt) (g : Env → W Out) : Prop := PS X s (tS G X Wx g)
def Ss (s : List Stmt) (g : Env → W Out) : Prop := PSs X s (tS G X Wx g)
end

section
variable {G : PenK} {X : Cx} {Wx : WX} {c : C} {σ : L2.St} {ρ : Env} {H H' : Hp} {n k : Nt} {S' : Addr → Prop}
theorem Gl1.grow {P : D → Nt → Prop} {Q : VK} (h : Gl1 G X c σ ρ H P Q) (g : Grow c.S S' H H') : Gl1 G X (c.to S') σ ρ H' P Q :=
  fun d k v S2 H2 p g2 I r => h d k v S2 H2 p (g.trans g2) I r
theorem GlO.grow {P : List D → Nt → Prop} {Q : VK} (h : GlO G X c σ ρ H P Q) (g : Grow c.S S' H H') : GlO G X (c.to S') σ ρ H' P Q :=
  fun d k v vs S2 H2 p g2 I r z q f => h d k v vs S2 H2 p (g.trans g2) I r z q f
theorem GlB.grow {P : Bool → Nt → Prop} {Q : Bool → Hp → Prop} (h : GlB G X c σ ρ H P Q) (g : Grow c.S S' H H') : GlB G X (c.to S') σ ρ H' P Q :=
  fun d k S2 H2 p g2 I => h d k S2 H2 p (g.trans g2) I
theorem GlA.grow {P : List D → Nt → Prop} {Q : List V → Hp → Prop} (h : GlA G X c σ ρ H P Q) (g : Grow c.S S' H H') : GlA G X (c.to S') σ ρ H' P Q :=
  fun d k v S2 H2 p g2 I r => h d k v S2 H2 p (g.trans g2) I r
theorem OKx.grow {PX : Exc → Nt → Prop} (h : OKx G X Wx c σ ρ H PX) (g : Grow c.S S' H H') : OKx G X Wx (c.to S') σ ρ H' PX :=
  fun x k S2 H2 cl dd p g2 I r => h x k S2 H2 cl dd p (g.trans g2) I r
theorem OKs.grow {PX : Exc → Nt → Prop} (h : OKs G X Wx c H PX) (g : Grow c.S S' H H') : OKs G X Wx (c.to S') H' PX :=
  fun x k σ2 ρ2 S2 H2 cl dd p g2 I r => h x k σ2 ρ2 S2 H2 cl dd p (g.trans g2) I r
theorem OKs.x {PX : Exc → Nt → Prop} (h : OKs G X Wx c H PX) : OKx G X Wx c σ ρ H PX :=
  fun x k S2 H2 cl dd p g I r => h x k σ ρ S2 H2 cl dd p g I r
theorem GlS.grow {P : Out → Nt → Prop} {Dn : Ends} (h : GlS G X c H P Dn) (g : Grow c.S S' H H') : GlS G X (c.to S') H' P Dn :=
  ⟨fun ρ k σ S2 H2 p g2 I => h.1 ρ k σ S2 H2 p (g.trans g2) I, fun d k v σ ρ S2 H2 p g2 I r => h.2.1 d k v σ ρ S2 H2 p (g.trans g2) I r,
    fun ρ k σ S2 H2 p g2 I => h.2.2.1 ρ k σ S2 H2 p (g.trans g2) I, fun ρ k σ S2 H2 p g2 I => h.2.2.2 ρ k σ S2 H2 p (g.trans g2) I⟩
theorem Gl1.at {P : D → Nt → Prop} {Q : VK} (h : Gl1 G X c σ ρ H P Q) {d : D} {v : V} (p : P d n) (I : SI G X.K c σ H ρ n) (r : Rep X.K c.S H d v) : Q v H :=
  h d n v c.S H p .refl I r
/-- a new object as the answer -/
theorem Gl1.new {P : D → Nt → Prop} {Q : VK} (h : Gl1 G X c σ ρ H P Q) {d : D} {a : Addr} {o : HO} (p : P d n) (I : SI G X.K c σ H ρ n) (hp : H a = none)
    (r : Grow c.S (fun b => c.S b ∨ b = a) H (upd H a o) → Rep X.K (fun b => c.S b ∨ b = a) (upd H a o) d (.ref a)) : Q (.ref a) (upd H a o) := by
  obtain ⟨I', g⟩ := I.laid (o := o) hp
  exact h d n _ _ _ p g I' (r g)
theorem weakE {e : Expr} {t t' : TE} (h : PE X e t) (f : ∀ σ H Q, t' σ H Q → t σ H Q) : PE X e t' := ⟨fun pins s σ H Q I q => h.run pins s σ H Q I (f σ H Q q)⟩
theorem weakT {e : Expr} {t t' : TT} (h : PT X e t) (f : ∀ σ H Q, t' σ H Q → t σ H Q) : PT X e t' := ⟨fun pins s σ H Q I q => h.run pins s σ H Q I (f σ H Q q)⟩
theorem weakW {e : Expr} {t t' : TT} (h : PW X e t) (f : ∀ σ H Q, t' σ H Q → t σ H Q) : PW X e t' := ⟨fun wh pins s σ H Q I q => h.run wh pins s σ H Q I (f σ H Q q)⟩
theorem weakA {es : List Expr} {t t' : TA} (h : PA X es t) (f : ∀ σ H Q, t' σ H Q → t σ H Q) : PA X es t' := ⟨fun pos pins s σ H Q I q => h.run pos pins s σ H Q I (f σ H Q q)⟩
theorem weakS {s : Stmt} {t t' : TS} (h : PS X s t) (f : ∀ D σ H, t' D σ H → t D σ H) : PS X s t' := ⟨fun pins s σ H D I q => h.run pins s σ H D I (f D σ H q)⟩
theorem weakSs {s : List Stmt} {t t' : TS} (h : PSs X s t) (f : ∀ D σ H, t' D σ H → t D σ H) : PSs X s t' := ⟨fun pins s σ H D I q => h.run pins s σ H D I (f D σ H q)⟩
/-- the parts in a row -/
theorem tE.bnd {α : Type} {g : Env → W D} {f : D → W α} {P : α → Nt → Prop} {PX : Exc → Nt → Prop} {Q : VK} (I : SI G X.K c σ H ρ n) (h : PL.bnd (g ρ) f n P PX) (hx : OKx G X Wx c σ ρ H PX)
    (hk : ∀ d k v S' H', f d k P PX → Grow c.S S' H H' → SI G X.K (c.to S') σ H' ρ k → OKx G X Wx (c.to S') σ ρ H' PX → Rep X.K S' H' d v → Q v H') : tE G X Wx g σ H Q :=
  ⟨c, ρ, n, fun d k => f d k P PX, PX, I, h, fun d k v S' H' p g I' r => hk d k v S' H' p g I' (hx.grow g) r, hx⟩
theorem tO.bnd {α : Type} {g : Env → W (List D)} {f : List D → W α} {P : α → Nt → Prop} {PX : Exc → Nt → Prop} {Q : VK} (I : SI G X.K c σ H ρ n) (h : PL.bnd (g ρ) f n P PX) (hx : OKx G X Wx c σ ρ H PX)
    (hk : ∀ xs k a vs S' H', f xs k P PX → Grow c.S S' H H' → SI G X.K (c.to S') σ H' ρ k → OKx G X Wx (c.to S') σ ρ H' PX → H' a = some (.lst vs) → xs.length ≤ sizeLine → Reps X.K S' H' xs vs → FreshAt (c.to S') k σ ρ a → Q (.ref a) H') : tO G X Wx g σ H Q :=
  ⟨c, ρ, n, fun d k => f d k P PX, PX, I, h, fun d k v vs S' H' p g I' r z q fr => hk d k v vs S' H' p g I' (hx.grow g) r z q fr, hx⟩
theorem tT.bnd {α : Type} {g : Env → W Bool} {f : Bool → W α} {P : α → Nt → Prop} {PX : Exc → Nt → Prop} {Q : Bool → Hp → Prop} (I : SI G X.K c σ H ρ n) (h : PL.bnd (g ρ) f n P PX) (hx : OKx G X Wx c σ ρ H PX)
    (hk : ∀ d k S' H', f d k P PX → Grow c.S S' H H' → SI G X.K (c.to S') σ H' ρ k → OKx G X Wx (c.to S') σ ρ H' PX → Q d H') : tT G X Wx g σ H Q :=
  ⟨c, ρ, n, fun d k => f d k P PX, PX, I, h, fun d k S' H' p g I' => hk d k S' H' p g I' (hx.grow g), hx⟩
theorem tAr.bnd {α : Type} {g : Env → W (List D)} {f : List D → W α} {P : α → Nt → Prop} {PX : Exc → Nt → Prop} {Q : List V → Hp → Prop} (I : SI G X.K c σ H ρ n) (h : PL.bnd (g ρ) f n P PX) (hx : OKx G X Wx c σ ρ H PX)
    (hk : ∀ d k v S' H', f d k P PX → Grow c.S S' H H' → SI G X.K (c.to S') σ H' ρ k → OKx G X Wx (c.to S') σ ρ H' PX → Reps X.K S' H' d v → Q v H') : tAr G X Wx g σ H Q :=
  ⟨c, ρ, n, fun d k => f d k P PX, PX, I, h, fun d k v S' H' p g I' r => hk d k v S' H' p g I' (hx.grow g) r, hx⟩

end
section
variable {G : PenK} {K : PySem.W.Frag} {c : C} {σ : L2.St} {ρ : Env} {H H' : Hp} {n k : Nt} {S' : Addr → Prop}
/-- a name takes data -/
theorem SI.set {i : Nat} {d : D} {v : V} (I : SI G K c σ H ρ n) (r : Rep K c.S H d v) : SI G K c (σ.set i (some v)) H (ρ.set i (.d d)) n := by
  have key : ∀ j sv, (ρ.set i (.d d))[j]? = some sv → (j = i ∧ sv = .d d ∧ slot (σ.set i (some v)) j = some v) ∨ (i ≠ j ∧ ρ[j]? = some sv ∧ slot (σ.set i (some v)) j = slot σ j) := fun j sv e => by
    by_cases h : i = j
    · subst h
      have hl : i < ρ.length := by
        have := (List.getElem?_eq_some_iff.mp e).1
        rwa [List.length_set] at this
      rw [List.getElem?_set_self hl] at e
      exact .inl ⟨rfl, (Option.some.inj e).symm, slot_set_same (I.len ▸ hl)⟩
    · rw [List.getElem?_set_ne h] at e
      exact .inr ⟨h, e, slot_set_ne h⟩
  refine ⟨by rw [List.length_set, List.length_set, I.len], fun j sv e => ?_, fun j sv a e ho es => ?_, fun j k sv sv' a hn e e' ho ho' es es' => ?_, I.dom, I.fr, I.pen, I.no, I.tab, I.mu, I.mu0, I.mz⟩
  · rcases key j sv e with ⟨_, rfl, h⟩ | ⟨_, h, h2⟩
    · exact ⟨v, h, r⟩
    · rw [h2]; exact I.slots j sv h
  · rcases key j sv e with ⟨_, rfl, h⟩ | ⟨_, h, h2⟩
    · cases ho
    · exact I.own j sv a h ho (h2 ▸ es)
  · rcases key j sv e with ⟨_, rfl, h⟩ | ⟨_, h, h2⟩
    · cases ho
    · rcases key k sv' e' with ⟨_, rfl, h⟩ | ⟨_, h', h2'⟩
      · cases ho'
      · exact I.apart j k sv sv' a hn h h' ho ho' (h2 ▸ es) (h2' ▸ es')
/-- a name takes a new list -/
theorem SI.setO {i : Nat} {xs : List D} {a : Addr} {vs : List V} (I : SI G K c σ H ρ n) (e1 : H a = some (.lst vs)) (z : xs.length ≤ sizeLine) (r : Reps K c.S H xs vs) (y : Young c n a)
    (f : ∀ j sv, i ≠ j → ρ[j]? = some sv → sv.isOwn = true → slot σ j ≠ some (.ref a)) : SI G K c (σ.set i (some (.ref a))) H (ρ.set i (.own xs)) n := by
  have key : ∀ j sv, (ρ.set i (.own xs))[j]? = some sv → (j = i ∧ sv = .own xs ∧ slot (σ.set i (some (.ref a))) j = some (.ref a)) ∨ (i ≠ j ∧ ρ[j]? = some sv ∧ slot (σ.set i (some (.ref a))) j = slot σ j) := fun j sv e => by
    by_cases h : i = j
    · subst h
      have hl : i < ρ.length := by
        have := (List.getElem?_eq_some_iff.mp e).1
        rwa [List.length_set] at this
      rw [List.getElem?_set_self hl] at e
      exact .inl ⟨rfl, (Option.some.inj e).symm, slot_set_same (I.len ▸ hl)⟩
    · rw [List.getElem?_set_ne h] at e
      exact .inr ⟨h, e, slot_set_ne h⟩
  refine ⟨by rw [List.length_set, List.length_set, I.len], fun j sv e => ?_, fun j sv b e ho es => ?_, fun j k sv sv' b hn e e' ho ho' es es' => ?_, I.dom, I.fr, I.pen, I.no, I.tab, I.mu, I.mu0, I.mz⟩
  · rcases key j sv e with ⟨_, rfl, h⟩ | ⟨_, h, h2⟩
    · exact ⟨a, vs, h, e1, z, r⟩
    · rw [h2]; exact I.slots j sv h
  · rcases key j sv e with ⟨_, rfl, h⟩ | ⟨_, h, h2⟩
    · rw [h] at es; cases es; exact y
    · exact I.own j sv b h ho (h2 ▸ es)
  · rcases key j sv e with ⟨h0, rfl, h⟩ | ⟨_, h, h2⟩
    · rcases key k sv' e' with ⟨h0', rfl, h'⟩ | ⟨_, h', h2'⟩
      · exact hn (h0.trans h0'.symm)
      · rw [h] at es; cases es
        exact f k sv' (h0 ▸ hn) h' ho' (h2' ▸ es')
    · rcases key k sv' e' with ⟨h0', rfl, h'⟩ | ⟨_, h', h2'⟩
      · rw [h'] at es'; cases es'
        exact f j sv (fun q => hn (q ▸ h0'.symm)) h ho (h2 ▸ es)
      · exact I.apart j k sv sv' b hn h h' ho ho' (h2 ▸ es) (h2' ▸ es')
/-- an address comes among those that stay -/
theorem SI.adopt {a : Addr} (I : SI G K c σ H ρ n) (y : FreshAt c n σ ρ a) (h : H a ≠ none) : SI G K (c.to fun b => c.S b ∨ b = a) σ H ρ n ∧ Grow c.S (fun b => c.S b ∨ b = a) H H := by
  have g : Grow c.S (fun b => c.S b ∨ b = a) H H := ⟨fun _ h => .inl h, fun _ _ => rfl⟩
  refine ⟨⟨I.len, fun i sv e => (I.slots i sv e).grow g fun _ _ _ => rfl, fun i sv b e ho es => ?_, I.apart, fun b h' => ?_, I.fr, fun p e => ?_, fun b h => ⟨fun z => z.elim (I.no b h).1 fun z => (I.no b h).2 (z ▸ y.1.2.1), (I.no b h).2⟩, fun q e => ⟨(I.tab q e).1, (I.tab q e).2.grow g rfl⟩, fun b nd e => ⟨(I.mu b nd e).1.grow g rfl, fun z => Or.elim z (I.mu b nd e).2.1 fun z => (by rw [z, y.1.2.2] at e; cases e), (I.mu b nd e).2.2⟩, I.mu0, I.mz⟩, g⟩
  · obtain ⟨h1, h2⟩ := I.own i sv b e ho es
    exact ⟨fun z => z.elim h1 fun z => y.2 i sv e ho (z ▸ es), h2⟩
  · rcases h' with h' | rfl
    · exact I.dom b h'
    · exact h
  · obtain ⟨h1, h2, h3, h4, h5⟩ := I.pen p e
    exact ⟨h1, fun z => z.elim h2 fun z => h4 (z ▸ y.1.2.1), fun z => z.elim h3 fun z => h5 (z ▸ y.1.2.1), h4, h5⟩

/-! ### all that is one's own, lent -/
def noOwnB (ρ : Env) : Bool := ρ.all fun s => !s.isOwn
def ownS (ρ : Env) (σ : L2.St) (a : Addr) : Prop := ∃ i sv, ρ[i]? = some sv ∧ sv.isOwn = true ∧ slot σ i = some (.ref a)
theorem bor_get {i : Nat} {sv : SV} (h : (bor ρ)[i]? = some sv) : ∃ s0, ρ[i]? = some s0 ∧ sv = s0.bor := by
  unfold bor at h
  rw [List.getElem?_map] at h
  cases e : ρ[i]? with
  | none => rw [e] at h; cases h
  | some s0 => rw [e] at h; exact ⟨s0, rfl, (Option.some.inj h).symm⟩
theorem bor_own {s : SV} : s.bor.isOwn = false := by cases s <;> rfl
theorem SI.own_there (I : SI G K c σ H ρ n) {a : Addr} (h : ownS ρ σ a) : H a ≠ none := by
  obtain ⟨i, sv, e, ho, es⟩ := h
  have q := I.slots i sv e
  cases sv with
  | own xs => obtain ⟨b, vs, e1, r, _⟩ := q; rw [e1] at es; cases es; rw [r]; exact fun z => nomatch z
  | ownK kvs => obtain ⟨b, vs, e1, r, _⟩ := q; rw [e1] at es; cases es; rw [r]; exact fun z => nomatch z
  | un => cases ho
  | d _ => cases ho
  | pen => cases ho
  | exc _ => cases ho
  | lam _ _ _ _ _ => cases ho
  | o _ => cases ho
theorem SI.lend (I : SI G K c σ H ρ n) : SI G K (c.to fun a => c.S a ∨ ownS ρ σ a) σ H (bor ρ) n ∧ Grow c.S (fun a => c.S a ∨ ownS ρ σ a) H H := by
  have g : Grow c.S (fun a => c.S a ∨ ownS ρ σ a) H H := ⟨fun _ h => .inl h, fun _ _ => rfl⟩
  refine ⟨⟨by unfold bor; rw [List.length_map, I.len], fun i sv e => ?_, fun i sv a e ho => ?_, fun i j sv sv' a _ e _ ho => ?_, fun a h => h.elim (I.dom a) I.own_there, I.fr, fun p e => ?_, fun a h => ⟨fun z => z.elim (I.no a h).1 fun ⟨i, sv, e, ho, es⟩ => (I.no a h).2 (I.own i sv a e ho es).2.1, (I.no a h).2⟩, fun q e => ⟨(I.tab q e).1, (I.tab q e).2.grow g rfl⟩, fun a nd e => ⟨(I.mu a nd e).1.grow g rfl, fun z => Or.elim z (I.mu a nd e).2.1 fun ⟨i, sv, e1, ho, es⟩ => (by rw [(I.own i sv a e1 ho es).2.2] at e; cases e), (I.mu a nd e).2.2⟩, I.mu0, I.mz⟩, g⟩
  · obtain ⟨s0, e0, rfl⟩ := bor_get e
    have q := (I.slots i s0 e0).grow g fun _ _ _ => rfl
    have q0 := I.slots i s0 e0
    cases s0 with
    | own xs => obtain ⟨b, vs, e1, r, z, q⟩ := q; exact ⟨.ref b, e1, b, vs, rfl, ⟨.inr ⟨i, _, e0, rfl, e1⟩, r⟩, z, q⟩
    | ownK kvs => obtain ⟨b, vs, e1, r, q⟩ := q; exact ⟨.ref b, e1, b, vs, rfl, ⟨.inr ⟨i, _, e0, rfl, e1⟩, .inl r⟩, q⟩
    | un => trivial
    | d _ => exact q
    | pen => exact q
    | exc _ => exact q
    | lam _ _ _ _ _ => exact q
    | o _ => exact q
  · obtain ⟨s0, _, rfl⟩ := bor_get e
    rw [bor_own] at ho; cases ho
  · obtain ⟨s0, _, rfl⟩ := bor_get e
    rw [bor_own] at ho; cases ho
  · obtain ⟨h1, h2, h3, h4, h5⟩ := I.pen p e
    have no : ∀ b, c.H0 b ≠ none → ¬ ownS ρ σ b := fun b hb ⟨i, sv, e, ho, es⟩ => hb (I.own i sv b e ho es).2.1
    exact ⟨h1, fun z => z.elim h2 (no _ h4), fun z => z.elim h3 (no _ h5), h4, h5⟩
/-- and given back -/
theorem SI.back {S' : Addr → Prop} (I : SI G K c σ H ρ n) (g : Grow (fun a => c.S a ∨ ownS ρ σ a) S' H H') (J : SI G K (c.to S') σ H' (bor ρ) k) :
    SI G K (c.to fun a => S' a ∧ ¬ ownS ρ σ a) σ H' ρ k ∧ Grow c.S (fun a => S' a ∧ ¬ ownS ρ σ a) H H' := by
  have no : ∀ a, c.S a → ¬ ownS ρ σ a := fun a h ⟨i, sv, e, ho, es⟩ => (I.own i sv a e ho es).1 h
  have g2 : Grow c.S (fun a => S' a ∧ ¬ ownS ρ σ a) H H' := ⟨fun a h => ⟨g.sub a (.inl h), no a h⟩, fun a h => g.eq a (.inl h)⟩
  refine ⟨⟨I.len, fun i sv e => (I.slots i sv e).grow g2 fun a ea ho => g.eq a (.inr ⟨i, sv, e, ho, ea⟩), fun i sv a e ho es => ⟨fun z => z.2 ⟨i, sv, e, ho, es⟩, (I.own i sv a e ho es).2.1, ?_⟩, I.apart, fun a h => J.dom a h.1, J.fr, fun p e => ?_, fun a h => ⟨fun z => (J.no a h).1 z.1, (J.no a h).2⟩, fun q e => ⟨(J.tab q e).1, ?_⟩, fun a nd e => ?_, J.mu0, J.mz⟩, g2⟩
  · cases q : k.μ a with
    | none => rfl
    | some nd =>
      have hS := J.muS (by rw [q]; exact fun z => nomatch z)
      exact absurd (g.sub a (.inr ⟨i, sv, e, ho, es⟩)) hS.1
  · obtain ⟨h1, h2, h3, h4, h5⟩ := J.pen p e
    exact ⟨h1, fun z => h2 z.1, fun z => h3 z.1, h4, h5⟩
  · obtain ⟨ps, h1, h2, h3⟩ := (J.tab q e).2
    refine ⟨ps, h1, h2, fun pos cv z => ?_⟩
    obtain ⟨c', e1, e2, e3⟩ := h3 pos cv z
    refine ⟨c', e1, ⟨e2, fun ⟨i, sv, k1, k2, k3⟩ => ?_⟩, e3⟩
    have hh : H' c' = H c' := g.eq c' (.inr ⟨i, sv, k1, k2, k3⟩)
    have q := I.slots i sv k1
    rw [e3] at hh
    cases sv with
    | own xs => obtain ⟨b, vs, u1, r, _⟩ := q; rw [u1] at k3; cases k3; rw [r] at hh; cases hh
    | ownK kvs => obtain ⟨b, vs, u1, r, _⟩ := q; rw [u1] at k3; cases k3; rw [r] at hh; cases hh
    | _ => cases k2
  · obtain ⟨m1, m2, m3, m4⟩ := J.mu a nd e
    exact ⟨m1.move rfl, fun z => m2 z.1, m3, m4⟩
end
end PL

/-! New tuples that are told by their very objects: none of them has a dict of its own. -/
namespace PL
open PySem PySem.Spec PyProof.Rows L2
/-- a new tuple -/
def NewT (H : Hp) (ys : List V) (Q : VK) : Prop := ∀ p o, H p = none → o.dict = none → Q (.ref p) (upd H p (.frz o (.tup ys)))
section
variable {X : Cx} {pins : List (Addr × Obj)} {σ : L2.St} {H : Hp} {s : Shared}
theorem newT {ys : List V} {its : List Value} {Q : VK} {n : Nat} (I : Inv X pins σ H s) (r : Vals ys its) (hz : ys.length ≤ sizeLine) (q : NewT H ys Q) : EP X pins σ Q (.ref s.heap.objs.size) { s with heap := s.heap.push { cls := .type "tuple", data := .seq its.toArray n } } :=
  ⟨.ref s.heap.objs.size, _, I.laid (t' := s.toks) (o := .frz { cls := .type "tuple", data := .seq its.toArray n } (.tup ys)) (fun b u e => Heap.get?_push_of_some _ e) (Nat.le_refl _) ⟨Heap.get?_push_size _ rfl, hz, its, r, ⟨_, Heap.get?_push_size _ rfl, rfl, _, rfl⟩⟩, rfl, q _ _ (I.hok.fresh (Nat.le_refl _)) rfl⟩
def tTupZ (t : TA) : TE := fun σ H Q => t σ H fun xs H1 => xs.length ≤ sizeLine ∧ NewT H1 xs Q
theorem pe_tupZ {es : List Expr} {x1 : Nat} {pos : Pos} {t : TA} (h : PA X es t) : PE X (.Tuple es x1 pos) (tTupZ t) := by
  refine ⟨fun pins s σ H Q I hq => ?_⟩
  exact wpAny_Tuple_spliced (thn (h.run pos pins s σ H _ I hq) fun us s1 ⟨xs, H1, I1, r, z, q⟩ => ⟨by rw [← r.length]; exact z, newT I1 r z q⟩)
def rCatZ (K : PySem.W.Frag) : R2 := fun x y H Q => ∃ a b xs ys, x = .ref a ∧ y = .ref b ∧ SqT K H a xs ∧ SqT K H b ys ∧ xs.length + ys.length ≤ sizeLine ∧
  (xs = [] → Q (.ref b) H) ∧ (xs ≠ [] → ys = [] → Q (.ref a) H) ∧ (xs ≠ [] → ys ≠ [] → NewT H (xs ++ ys) Q)
theorem op_catZ : OpR X (binaryOp .Add) (rCatZ X.K) := by
  intro pins s σ H x y v u Q I rx ry h
  obtain ⟨a, b, xs, ys, rfl, rfl, ha, hb, hz, q0, q1, q2⟩ := h
  cases rx
  cases ry
  obtain ⟨its, r1, p1, _⟩ := I.tuple ha
  obtain ⟨its2, r2, p2, _⟩ := I.tuple hb
  by_cases hx : xs = []
  · subst hx
    cases r1
    exact cat_tup0 p1 p2 ⟨.ref b, H, I, rfl, q0 rfl⟩
  · refine HT.cat_tup p1 p2 (fun z => hx (r1.nil_iff.mp z)) (fun z => ⟨.ref a, H, I, rfl, q1 hx (r2.nil_iff.mp z)⟩) (fun z => ?_) (by rw [← r1.length, ← r2.length]; exact hz)
    exact newT I (r1.append r2) (by rw [List.length_append]; exact hz) (q2 hx fun w => z (r2.nil_iff.mpr w))
def rSlZ (K : PySem.W.Frag) : V → Option Int → Option Int → Hp → VK → Prop := fun x lo hi H Q => ∃ a xs, x = .ref a ∧ SqT K H a xs ∧
  (HT.sIx xs.length 0 lo = 0 ∧ HT.sIx xs.length xs.length hi = xs.length → Q (.ref a) H) ∧ (¬ (HT.sIx xs.length 0 lo = 0 ∧ HT.sIx xs.length xs.length hi = xs.length) → NewT H (cutV xs lo hi) Q)
theorem sl_tupZ : SlR X (rSlZ X.K) := by
  intro pins s σ H x v vl vu lo hi sl Q I rx hs pl pu h
  obtain ⟨a, xs, rfl, hx, q1, q2⟩ := h
  cases rx
  obtain ⟨its, r, ht, hz⟩ := I.tuple hx
  have hlen : its.toArray.size = xs.length := by rw [List.size_toArray]; exact r.length.symm
  refine ⟨"tuple", _, PyProof.Rows.slot_tuple_getitem.lookup, ht.typeIs, ?_⟩
  by_cases hw : HT.sIx xs.length 0 lo = 0 ∧ HT.sIx xs.length xs.length hi = xs.length
  · exact getItem_tuple_whole ht hs pl pu (by rw [hlen]; exact hw) ⟨.ref a, H, I, rfl, q1 hw⟩
  · refine HT.getItem_tuple_cut ht hs pl pu (by rw [hlen]; exact hw) ?_ (by rw [hlen]; exact hz)
    rw [hlen]
    exact newT I ((r.drop (HT.sIx xs.length 0 lo)).take (HT.sIx xs.length xs.length hi - HT.sIx xs.length 0 lo)) (Nat.le_trans (cutV_length xs lo hi) hz) (q2 hw)
theorem call_tupleZ : CallR X (.type "tuple") (fun xs H Q => ∃ p ys, xs = [.ref p] ∧ ((SqL X.K H p ys ∧ NewT H ys Q) ∨ (SqT X.K H p ys ∧ Q (.ref p) H))) := by
  intro pins s σ H xs us Q I r h
  obtain ⟨p, ys, rfl, h⟩ := h
  obtain ⟨u, rfl, rx⟩ := vals1 r
  cases rx
  rcases h with ⟨hq, q⟩ | ⟨hq, q⟩
  · obtain ⟨its, r', pl, hz⟩ := I.list hq
    have hlen := r'.length
    refine call_tuple_list pl.isList (fun h' kp => ?_) (by simp only [List.size_toArray] <;> omega)
    have I1 : Inv X pins σ H { s with heap := h' } := I.kept (t' := s.toks) kp
    exact newT I1 r' hz q
  · obtain ⟨its, r', pl, hz⟩ := I.tuple hq
    exact call_tuple_same pl ⟨.ref p, H, I, rfl, q⟩
end
end PL

/-! The layer's expressions. -/
namespace PL
open PySem PySem.Spec L2

mutual
/-- data as the library's own data (a dict is not carried) -/
def py : D → PyData
  | .non => .none
  | .bl b => .bool b
  | .int i => .int i
  | .str x => .str x
  | .lst xs => .list (pys xs)
  | .tup xs => .tuple (pys xs)
  | .dic kvs => .dict (pyk kvs)
def pys : List D → List PyData
  | [] => []
  | x :: xs => py x :: pys xs
def pyk : List (Key × D) → List (PyData × PyData)
  | [] => []
  | (.inl i, x) :: r => (.int i, py x) :: pyk r
  | (.inr s, x) :: r => (.str s, py x) :: pyk r
end
def okD (d : D) : Bool := SeqAt.shaped (py d)

def nm (ρ : Env) (i : Nat) : W D := match ρ[i]? with
  | some (.d x) => ret x
  | _ => stuck
def addD : D → D → W D
  | .int i, .int j => ret (.int (i + j))
  | .str a, .str b => grd (a.length + b.length ≤ sizeLine) (ret (.str (a ++ b)))
  | .tup xs, .tup ys => grd (xs.length + ys.length ≤ sizeLine) (ret (.tup (xs ++ ys)))
  | .lst xs, .lst ys => grd (xs.length + ys.length ≤ sizeLine) (ret (.lst (xs ++ ys)))
  | _, _ => stuck
def catD : D → D → W (List D)
  | .lst xs, .lst ys => grd (xs.length + ys.length ≤ sizeLine) (ret (xs ++ ys))
  | _, _ => stuck
def subD : D → D → W D
  | .int i, .int j => ret (.int (i - j))
  | _, _ => stuck
def mulD : D → D → W D
  | .int i, .int j => grd (CMul i j) (ret (.int (i * j)))
  | _, _ => stuck
def fdivD : D → D → W D
  | .int i, .int j => grd (CDiv i j) (ret (.int (i / j)))
  | _, _ => stuck
def modD : D → D → W D
  | .int i, .int j => grd (0 < j) (ret (.int (i % j)))
  | _, _ => stuck
def powD : D → D → W D
  | .int i, .int j => grd (CPow i j) (ret (.int (i ^ j.toNat)))
  | _, _ => stuck
def negD : D → W D
  | .int i => ret (.int (-i))
  | _ => stuck
/-- two lists of unlike length -/
def difL : D → D → Bool
  | .lst xs, .lst ys => xs.length != ys.length
  | _, _ => false
theorem pys_len : ∀ xs : List D, (pys xs).length = xs.length
  | [] => rfl
  | x :: xs => by show _ + 1 = _ + 1; rw [pys_len xs]
theorem eqvAll_len : ∀ xs ys : List PyData, xs.length ≠ ys.length → PyData.eqvAll xs ys = false
  | [], [], h => absurd rfl h
  | [], _ :: _, _ => by simp [PyData.eqvAll]
  | _ :: _, [], _ => by simp [PyData.eqvAll]
  | x :: xs, y :: ys, h => by
    have ih := eqvAll_len xs ys fun e => h (by show _ + 1 = _ + 1; rw [e])
    simp [PyData.eqvAll, ih]
theorem difL_eqv {a b : D} (h : difL a b = true) : ∃ xs ys, a = .lst xs ∧ b = .lst ys ∧ xs.length ≠ ys.length ∧ PyData.eqv (py a) (py b) = false := by
  unfold difL at h
  split at h
  · rename_i xs ys
    have hn : xs.length ≠ ys.length := by simpa using h
    refine ⟨xs, ys, rfl, rfl, hn, ?_⟩
    simp only [py, PyData.eqv]
    exact eqvAll_len _ _ (by rw [pys_len, pys_len]; exact hn)
  · cases h
def strS : D → D → Bool
  | .str _, .str _ => true
  | _, _ => false
def eqQ (a b : D) : Prop := (okD a = true ∧ okD b = true) ∨ difL a b = true ∨ strS a b = true
def eqD (a b : D) : W D := grd (eqQ a b) (ret (.bl (PyData.eqv (py a) (py b))))
def neD (a b : D) : W D := grd (eqQ a b) (ret (.bl (!PyData.eqv (py a) (py b))))
def ltD : D → D → W D
  | .int i, .int j => ret (.bl (decide (i < j)))
  | .str a, .str b => ret (.bl (decide (a.cps.toList < b.cps.toList)))
  | _, _ => stuck
def leD : D → D → W D
  | .int i, .int j => ret (.bl (decide (i ≤ j)))
  | .str a, .str b => ret (.bl (!decide (b.cps.toList < a.cps.toList)))
  | _, _ => stuck
def gtD : D → D → W D
  | .int i, .int j => ret (.bl (decide (j < i)))
  | .str a, .str b => ret (.bl (decide (b.cps.toList < a.cps.toList)))
  | _, _ => stuck
def geD : D → D → W D
  | .int i, .int j => ret (.bl (decide (j ≤ i)))
  | .str a, .str b => ret (.bl (!decide (a.cps.toList < b.cps.toList)))
  | _, _ => stuck
def isNone (a : D) : Bool := match a with
  | .non => true
  | _ => false
/-- a is None, a is not None -/
def isND (a b : D) : W D := match b with
  | .non => ret (.bl (isNone a))
  | .bl y => match a with
    | .bl x => ret (.bl (decide (x = y)))
    | _ => stuck
  | _ => stuck
def notND (a b : D) : W D := match b with
  | .non => ret (.bl (!isNone a))
  | .bl y => match a with
    | .bl x => ret (.bl (!decide (x = y)))
    | _ => stuck
  | _ => stuck
def scEq : D → D → Bool
  | .non, .non => true
  | .bl a, .bl b => a == b
  | .int i, .int j => i == j
  | .bl a, .int j => (if a then 1 else 0) == j
  | .int i, .bl b => i == (if b then 1 else 0)
  | .str x, .str y => x == y
  | _, _ => false

def tru : D → W Bool
  | .non => ret false
  | .bl b => ret b
  | .int i => ret (i != 0)
  | .str x => ret ((x.length : Int) != 0)
  | .lst xs => ret (!xs.isEmpty)
  | .tup xs => ret (!xs.isEmpty)
  | .dic _ => stuck
def items : D → W (List D)
  | .lst xs => ret xs
  | .tup xs => ret xs
  | _ => stuck
def ixD : D → D → W D
  | .lst xs, .int i => match atI xs i with
    | some x => ret x
    | none => stuck
  | .tup xs, .int i => match atI xs i with
    | some x => ret x
    | none => stuck
  | .str z, .int i => match atI z.cps.toList i with
    | some k => ret (.str ⟨#[k]⟩)
    | none => stuck
  | _, _ => stuck
def lenD : D → W D
  | .lst xs => ret (.int xs.length)
  | .tup xs => ret (.int xs.length)
  | .str x => ret (.int x.length)
  | .dic kvs => ret (.int kvs.length)
  | _ => stuck
def one (f : D → W D) : List D → W D
  | [x] => f x
  | _ => stuck
def two (f : D → D → W D) : List D → W D
  | [x, y] => f x y
  | _ => stuck
def cutD {α : Type} (xs : List α) (lo hi : Option Int) : List α := (xs.drop (HT.sIx xs.length 0 lo)).take (HT.sIx xs.length xs.length hi - HT.sIx xs.length 0 lo)

section
variable {G : PenK} {X : Cx} {Wx : WX}

/-! ### by values -/
def V1 (G : PenK) (X : Cx) (Wx : WX) (h : D → W D) (r : V → Hp → VK → Prop) : Prop :=
  ∀ c σ ρ H n P PX d v Q, SI G X.K c σ H ρ n → Rep X.K c.S H d v → h d n P PX → Gl1 G X c σ ρ H P Q → OKx G X Wx c σ ρ H PX → r v H Q
def V2 (G : PenK) (X : Cx) (Wx : WX) (h : D → D → W D) (r : R2) : Prop :=
  ∀ c σ ρ H n P PX d e v w Q, SI G X.K c σ H ρ n → Rep X.K c.S H d v → Rep X.K c.S H e w → h d e n P PX → Gl1 G X c σ ρ H P Q → OKx G X Wx c σ ρ H PX → r v w H Q
def VA (G : PenK) (X : Cx) (Wx : WX) (h : List D → W D) (r : List V → Hp → VK → Prop) : Prop :=
  ∀ c σ ρ H n P PX ds vs Q, SI G X.K c σ H ρ n → Reps X.K c.S H ds vs → h ds n P PX → Gl1 G X c σ ρ H P Q → OKx G X Wx c σ ρ H PX → r vs H Q
def V2O (G : PenK) (X : Cx) (Wx : WX) (h : D → D → W (List D)) (r : R2) : Prop :=
  ∀ c σ ρ H n P PX d e v w Q, SI G X.K c σ H ρ n → Rep X.K c.S H d v → Rep X.K c.S H e w → h d e n P PX → GlO G X c σ ρ H P Q → OKx G X Wx c σ ρ H PX → r v w H Q
def VAO (G : PenK) (X : Cx) (Wx : WX) (h : List D → W (List D)) (r : List V → Hp → VK → Prop) : Prop :=
  ∀ c σ ρ H n P PX ds vs Q, SI G X.K c σ H ρ n → Reps X.K c.S H ds vs → h ds n P PX → GlO G X c σ ρ H P Q → OKx G X Wx c σ ρ H PX → r vs H Q

/-- a new list as the answer -/
theorem GlO.new {c : C} {σ : L2.St} {ρ : Env} {H : Hp} {n : Nt} {P : List D → Nt → Prop} {Q : VK} (h : GlO G X c σ ρ H P Q) {xs : List D} {vs : List V} {a : Addr} (p : P xs n) (I : SI G X.K c σ H ρ n) (hp : H a = none)
    (z : xs.length ≤ sizeLine) (r : Reps X.K c.S H xs vs) : Q (.ref a) (upd H a (.lst vs)) := by
  have ne : ∀ b, H b ≠ none → b ≠ a := fun b q e => q (e ▸ hp)
  have g : Grow c.S c.S H (upd H a (.lst vs)) := ⟨fun _ q => q, fun b q => upd_ne (ne b (I.dom b q))⟩
  have I' : SI G X.K c σ (upd H a (.lst vs)) ρ n := ⟨I.len, fun i sv e => (I.slots i sv e).grow g fun b eb ho => upd_ne (ne b (I.own_there ⟨i, sv, e, ho, eb⟩)), I.own, I.apart, fun b q => by rw [upd_ne (ne b (I.dom b q))]; exact I.dom b q,
    fun b u e q => by
      have := I.fr b u e q
      rw [upd_ne (ne b (by rw [this]; exact fun z => nomatch z))]
      exact this, fun q e => by
      obtain ⟨h1, h2, h3, h4, h5⟩ := I.pen q e
      obtain ⟨k1, k2⟩ := G.there h1
      exact ⟨G.dep h1 (upd_ne (ne _ k1)) (upd_ne (ne _ k2)), h2, h3, h4, h5⟩, I.no, fun q e => ⟨(I.tab q e).1, (I.tab q e).2.grow g (upd_ne (ne _ (I.tabN e).2.2))⟩, fun b nd e => ⟨(I.mu b nd e).1.grow g (upd_ne (ne _ (I.mu b nd e).1.there)), (I.mu b nd e).2⟩, I.mu0, I.mz⟩
  exact h xs n a vs c.S _ p g I' upd_same z (Reps.grow g _ _ r) ⟨⟨fun q => I.dom a q hp, I.freeOld hp, I.freeM hp⟩, fun i sv e ho es => I.own_there ⟨i, sv, e, ho, es⟩ hp⟩

/-- a new list may stay -/
theorem EO.e {e : Expr} {g : Env → W (List D)} (h : EO G X Wx e g) : E G X Wx e (fun ρ => bnd (g ρ) fun xs => ret (.lst xs)) :=
  weakE h fun σ H Q ⟨c, ρ, n, P, PX, I, q, hg, hx⟩ => tO.bnd I q hx fun xs k a vs S' H' p g I' _ e z r f => by
    obtain ⟨I2, g2⟩ := I'.adopt f (by rw [e]; exact fun z => nomatch z)
    exact hg (.lst xs) k (.ref a) _ H' p (g.trans g2) I2 ⟨a, vs, rfl, ⟨.inr rfl, e⟩, z, Reps.grow g2 _ _ r⟩

/-! ### names, constants -/
theorem e_nm (i : Nat) {x : Str} {pos : Pos} (hN : X.N[i]? = some x := by rfl) (hv : Vis X.env.scope x := by first | exact Or.inl rfl | exact Or.inr (Or.inl rfl) | exact Or.inr (Or.inr rfl)) (hd : (x == ("__debug__" : Str)) = false := by decide)
    (hcd : (x == ("__classdict__" : Str)) = false := by decide) : E G X Wx (.Name x pos) (fun ρ => nm ρ i) :=
  weakE (pe_var hN hv hd hcd) fun σ H Q ⟨c, ρ, n, P, PX, I, q, hg, hx⟩ => by
    have q : nm ρ i n P PX := q
    unfold nm at q
    cases e : ρ[i]? with
    | none => rw [e] at q; exact q.elim
    | some sv =>
      rw [e] at q
      cases sv with
      | d x =>
        obtain ⟨v, e2, r⟩ := I.slots i _ e
        exact ⟨v, slot_some e2, hg.at q I r⟩
      | un => exact q.elim
      | own _ => exact q.elim
      | ownK _ => exact q.elim
      | pen => exact q.elim
      | exc _ => exact q.elim
      | lam _ _ _ _ _ => exact q.elim
      | o _ => exact q.elim
theorem e_cst {e : Expr} {v : V} {d : D} (h : PE X e (tC v)) (r : ∀ S H, Rep X.K S H d v) : E G X Wx e (fun _ => ret d) :=
  weakE h fun σ H Q ⟨c, ρ, n, P, PX, I, q, hg, hx⟩ => hg.at q I (r _ _)
theorem e_int {i : Int} {j pos} : E G X Wx (.Constant (.int i) j pos) (fun _ => ret (.int i)) := e_cst pe_int fun _ _ => rfl
theorem e_bl {b : Bool} {j pos} : E G X Wx (.Constant (.bool b) j pos) (fun _ => ret (.bl b)) := e_cst pe_bl fun _ _ => rfl
theorem e_non {j pos} : E G X Wx (.Constant .none j pos) (fun _ => ret .non) := e_cst pe_non fun _ _ => rfl
theorem e_str {x : Str} {j pos} (hz : x.length ≤ sizeLine := by decide +kernel) : E G X Wx (.Constant (.str x) j pos) (fun _ => ret (.str x)) := e_cst pe_str fun _ _ => ⟨rfl, hz⟩
/-- a constant of the module -/
theorem e_gs {x y : Str} {t : Tok} {pos : Pos} (hm : X.mg x = some (.str y t)) (hz : y.length ≤ sizeLine := by decide +kernel) (hg : Gl X x := by rfl) (hd : (x == ("__debug__" : Str)) = false := by decide) : E G X Wx (.Name x pos) (fun _ => ret (.str y)) :=
  e_cst (v := .str y) (pe_glob hg hm ⟨t, rfl⟩ hd) fun _ _ => ⟨rfl, hz⟩
theorem e_gi {x : Str} {i : Int} {t : Tok} {pos : Pos} (hm : X.mg x = some (.int i t)) (hg : Gl X x := by rfl) (hd : (x == ("__debug__" : Str)) = false := by decide) : E G X Wx (.Name x pos) (fun _ => ret (.int i)) :=
  e_cst (v := .int i) (pe_glob hg hm ⟨t, rfl⟩ hd) fun _ _ => rfl

/-! ### two parts, a rule by values -/
theorem two_parts {e : Expr} {a b : Expr} {ga gb : Env → W D} {h : D → D → W D} {r : R2} (v : V2 G X Wx h r) (ha : E G X Wx a ga) (hb : E G X Wx b gb)
    (he : PE X e (tOp r (tE G X Wx ga) (tE G X Wx gb))) : E G X Wx e (fun ρ => bnd (ga ρ) fun x => bnd (gb ρ) fun y => h x y) :=
  weakE he fun σ H Q ⟨c, ρ, n, P, PX, I, q, hg, hx⟩ => tE.bnd I q hx fun d k u S' H' p g I' hx' r' =>
    tE.bnd I' p hx' fun d2 k2 u2 S2 H2 p2 g2 I2 hx2 r2 => v _ σ ρ H2 k2 P PX d d2 u u2 Q I2 (Rep.grow g2 _ _ r') r2 p2 (hg.grow (g.trans g2)) hx2
theorem two_partsO {e : Expr} {a b : Expr} {ga gb : Env → W D} {h : D → D → W (List D)} {r : R2} (v : V2O G X Wx h r) (ha : E G X Wx a ga) (hb : E G X Wx b gb)
    (he : PE X e (tOp r (tE G X Wx ga) (tE G X Wx gb))) : EO G X Wx e (fun ρ => bnd (ga ρ) fun x => bnd (gb ρ) fun y => h x y) :=
  weakE he fun σ H Q ⟨c, ρ, n, P, PX, I, q, hg, hx⟩ => tE.bnd I q hx fun d k u S' H' p g I' hx' r' =>
    tE.bnd I' p hx' fun d2 k2 u2 S2 H2 p2 g2 I2 hx2 r2 => v _ σ ρ H2 k2 P PX d d2 u u2 Q I2 (Rep.grow g2 _ _ r') r2 p2 (hg.grow (g.trans g2)) hx2
theorem e_op {op : Operator} {a b : Expr} {pos : Pos} {ga gb : Env → W D} {h : D → D → W D} {r : R2} (o : OpR X (binaryOp op) r) (v : V2 G X Wx h r) (ha : E G X Wx a ga) (hb : E G X Wx b gb) :
    E G X Wx (.BinOp a op b pos) (fun ρ => bnd (ga ρ) fun x => bnd (gb ρ) fun y => h x y) := two_parts v ha hb (pe_op o ha hb)
theorem e_un {op : UnaryOp} {a : Expr} {pos : Pos} {ga : Env → W D} {h : D → W D} {r : V → Hp → VK → Prop} (o : UnR X (unaryOp op) r) (v : V1 G X Wx h r) (ha : E G X Wx a ga) :
    E G X Wx (.UnaryOp op a pos) (fun ρ => bnd (ga ρ) h) :=
  weakE (pe_un o ha) fun σ H Q ⟨c, ρ, n, P, PX, I, q, hg, hx⟩ => tE.bnd I q hx fun d k u S' H' p g I' hx' r' => v _ σ ρ H' k P PX d u Q I' r' p (hg.grow g) hx'
theorem e_cmpR {op : CmpOp} {a b : Expr} {pos : Pos} {ga gb : Env → W D} {h : D → D → W D} {r : R2} (o : OpR X (compareOp op) r) (v : V2 G X Wx h r) (ha : E G X Wx a ga) (hb : E G X Wx b gb) (hm : behindInMarks op b = false := by rfl) :
    E G X Wx (.Compare a [op] [b] pos) (fun ρ => bnd (ga ρ) fun x => bnd (gb ρ) fun y => h x y) := two_parts v ha hb (pe_cmpR o ha hb hm)

theorem v2_add : V2 G X Wx addD (fun x y H Q => (∃ i j, x = .int i ∧ y = .int j ∧ Q (.int (i + j)) H) ∨ (∃ i j, x = .str i ∧ y = .str j ∧ i.length + j.length ≤ sizeLine ∧ Q (.str (i ++ j)) H) ∨ rCatZ X.K x y H Q ∨ rCat x y H Q) := by
  intro c σ ρ H n P PX d e v w Q I rd re h hg hx
  cases d with
  | int i =>
    cases e with
    | int j => cases rd; cases re; exact .inl ⟨i, j, rfl, rfl, hg.at (d := .int (i + j)) h I rfl⟩
    | _ => exact h.elim
  | str a =>
    cases e with
    | str b =>
      obtain ⟨rfl, z1⟩ := rd
      obtain ⟨rfl, z2⟩ := re
      obtain ⟨z, h⟩ := h
      exact .inr (.inl ⟨a, b, rfl, rfl, z, hg.at (d := .str (a ++ b)) h I ⟨rfl, by rw [PySem.Str.length_append]; exact z⟩⟩)
    | _ => exact h.elim
  | tup xs =>
    cases e with
    | tup ys =>
      obtain ⟨z, h⟩ := h
      obtain ⟨a, vs, rfl, r1, z1, q1⟩ := id rd
      obtain ⟨b, ws, rfl, r2, z2, q2⟩ := id re
      have l1 := q1.len
      have l2 := q2.len
      refine .inr (.inr (.inl ⟨a, b, vs, ws, rfl, rfl, r1.sq, r2.sq, by omega, fun e => ?_, fun _ e => ?_, fun _ _ p o hp hd => ?_⟩))
      · have e' : xs = [] := by
          subst e
          exact List.eq_nil_of_length_eq_zero l1.symm
        subst e'
        exact hg.at h I re
      · have e' : ys = [] := by
          subst e
          exact List.eq_nil_of_length_eq_zero l2.symm
        subst e'
        rw [List.append_nil] at h
        exact hg.at h I rd
      · exact hg.new h I hp fun g => ⟨p, vs ++ ws, rfl, .inl ⟨.inr rfl, o, upd_same, hd⟩, by rw [List.length_append]; exact z, Reps.app (Reps.grow g _ _ q1) (Reps.grow g _ _ q2)⟩
    | _ => exact h.elim
  | lst xs =>
    cases e with
    | lst ys =>
      obtain ⟨z, h⟩ := h
      obtain ⟨a, vs, rfl, r1, z1, q1⟩ := rd
      obtain ⟨b, ws, rfl, r2, z2, q2⟩ := re
      have l1 := q1.len
      have l2 := q2.len
      exact .inr (.inr (.inr ⟨a, b, vs, ws, rfl, rfl, r1.2, r2.2, by omega, fun p hp => hg.new h I hp fun g => ⟨p, vs ++ ws, rfl, ⟨.inr rfl, upd_same⟩, by rw [List.length_append]; exact z, Reps.app (Reps.grow g _ _ q1) (Reps.grow g _ _ q2)⟩⟩))
    | _ => exact h.elim
  | _ => exact h.elim
theorem e_add {a b : Expr} {pos : Pos} {ga gb : Env → W D} (ha : E G X Wx a ga) (hb : E G X Wx b gb) : E G X Wx (.BinOp a .Add b pos) (fun ρ => bnd (ga ρ) fun x => bnd (gb ρ) fun y => addD x y) :=
  e_op (op_add.or (op_add_str.or (op_catZ.or op_cat))) v2_add ha hb
theorem v2_cat : V2O G X Wx catD rCat := by
  intro c σ ρ H n P PX d e v w Q I rd re h hg hx
  cases d with
  | lst xs =>
    cases e with
    | lst ys =>
      obtain ⟨z, h⟩ := h
      obtain ⟨a, vs, rfl, r1, z1, q1⟩ := rd
      obtain ⟨b, ws, rfl, r2, z2, q2⟩ := re
      have l1 := q1.len
      have l2 := q2.len
      exact ⟨a, b, vs, ws, rfl, rfl, r1.2, r2.2, by omega, fun p hp => hg.new h I hp (by rw [List.length_append]; exact z) (Reps.app q1 q2)⟩
    | _ => exact h.elim
  | _ => exact h.elim
/-- two lists -/
theorem e_cat {a b : Expr} {pos : Pos} {ga gb : Env → W D} (ha : E G X Wx a ga) (hb : E G X Wx b gb) : EO G X Wx (.BinOp a .Add b pos) (fun ρ => bnd (ga ρ) fun x => bnd (gb ρ) fun y => catD x y) :=
  two_partsO v2_cat ha hb (pe_op op_cat ha hb)
theorem v2_ints {h : D → D → W D} {C : Int → Int → Prop} {g : Int → Int → Int} (hh : ∀ d e n P PX, h d e n P PX → ∃ i j, d = .int i ∧ e = .int j ∧ C i j ∧ P (.int (g i j)) n) : V2 G X Wx h (rI C fun i j => .int (g i j)) := by
  intro c σ ρ H n P PX d e v w Q I rd re q hg hx
  obtain ⟨i, j, rfl, rfl, q1, q2⟩ := hh d e n P PX q
  cases rd; cases re
  exact ⟨i, j, rfl, rfl, q1, hg.at (d := .int (g i j)) q2 I rfl⟩
theorem rI_of {C : Int → Int → Prop} {g : Int → Int → V} {x y : V} {H : Hp} {Q : VK} (h : rI (fun _ _ => True) g x y H Q) : rI0 g x y H Q := by
  obtain ⟨i, j, e1, e2, _, q⟩ := h
  exact ⟨i, j, e1, e2, q⟩
theorem e_sub {a b : Expr} {pos : Pos} {ga gb : Env → W D} (ha : E G X Wx a ga) (hb : E G X Wx b gb) : E G X Wx (.BinOp a .Sub b pos) (fun ρ => bnd (ga ρ) fun x => bnd (gb ρ) fun y => subD x y) :=
  e_op op_sub (by
    intro c σ ρ H n P PX d e v w Q I rd re q hg hx
    unfold subD at q
    split at q
    · cases rd; cases re; exact ⟨_, _, rfl, rfl, hg.at (d := .int _) q I rfl⟩
    · exact q.elim) ha hb
theorem e_mul {a b : Expr} {pos : Pos} {ga gb : Env → W D} (ha : E G X Wx a ga) (hb : E G X Wx b gb) : E G X Wx (.BinOp a .Mult b pos) (fun ρ => bnd (ga ρ) fun x => bnd (gb ρ) fun y => mulD x y) :=
  e_op op_mul (v2_ints fun d e n P PX q => by
    unfold mulD at q
    split at q
    · exact ⟨_, _, rfl, rfl, q.1, q.2⟩
    · exact q.elim) ha hb
theorem e_fdiv {a b : Expr} {pos : Pos} {ga gb : Env → W D} (ha : E G X Wx a ga) (hb : E G X Wx b gb) : E G X Wx (.BinOp a .FloorDiv b pos) (fun ρ => bnd (ga ρ) fun x => bnd (gb ρ) fun y => fdivD x y) :=
  e_op op_fdiv (v2_ints fun d e n P PX q => by
    unfold fdivD at q
    split at q
    · exact ⟨_, _, rfl, rfl, q.1, q.2⟩
    · exact q.elim) ha hb
theorem e_mod {a b : Expr} {pos : Pos} {ga gb : Env → W D} (ha : E G X Wx a ga) (hb : E G X Wx b gb) : E G X Wx (.BinOp a .Mod b pos) (fun ρ => bnd (ga ρ) fun x => bnd (gb ρ) fun y => modD x y) :=
  e_op op_mod (v2_ints (C := fun _ j => 0 < j) fun d e n P PX q => by
    unfold modD at q
    split at q
    · exact ⟨_, _, rfl, rfl, q.1, q.2⟩
    · exact q.elim) ha hb
theorem e_pow {a b : Expr} {pos : Pos} {ga gb : Env → W D} (ha : E G X Wx a ga) (hb : E G X Wx b gb) : E G X Wx (.BinOp a .Pow b pos) (fun ρ => bnd (ga ρ) fun x => bnd (gb ρ) fun y => powD x y) :=
  e_op op_pow (v2_ints fun d e n P PX q => by
    unfold powD at q
    split at q
    · exact ⟨_, _, rfl, rfl, q.1, q.2⟩
    · exact q.elim) ha hb
theorem e_neg {a : Expr} {pos : Pos} {ga : Env → W D} (ha : E G X Wx a ga) : E G X Wx (.UnaryOp .USub a pos) (fun ρ => bnd (ga ρ) negD) :=
  e_un un_neg (by
    intro c σ ρ H n P PX d v Q I rd q hg hx
    cases d with
    | int i => cases rd; exact ⟨i, rfl, hg.at (d := .int (-i)) q I rfl⟩
    | _ => exact q.elim) ha

/-! ### comparisons -/
mutual
theorem Rep.dp {K : PySem.W.Frag} {S : Addr → Prop} {H : Hp} : ∀ (d : D) (v : V), (py d).canLay0 = true → Rep K S H d v → Dp K H v (py d)
  | .non, _, _, h => by cases h; exact .non
  | .bl _, _, _, h => by cases h; exact .bl _
  | .int _, _, _, h => by cases h; exact .int _
  | .str _, _, _, h => by obtain ⟨rfl, _⟩ := h; exact .str _
  | .lst xs, _, l, h => by
    obtain ⟨a, vs, rfl, r, _, q⟩ := h
    exact .lst r.sq (Reps.dp xs vs (by simpa [py, PyData.canLay0] using l) q)
  | .tup xs, _, l, h => by
    obtain ⟨a, vs, rfl, r, _, q⟩ := h
    exact .tup r.sq (Reps.dp xs vs (by simpa [py, PyData.canLay0] using l) q)
  | .dic kvs, _, l, h => by simp [py, PyData.canLay0] at l
theorem Reps.dp {K : PySem.W.Frag} {S : Addr → Prop} {H : Hp} : ∀ (xs : List D) (vs : List V), PyData.canLayAll0 (pys xs) = true → Reps K S H xs vs → DpAll K H vs (pys xs)
  | [], _, _, h => by
    have e : _ = [] := h
    rw [e]
    exact .nil
  | x :: xs, _, l, h => by
    obtain ⟨v, ws, rfl, r, q⟩ := h
    have l' : (py x).canLay0 = true ∧ PyData.canLayAll0 (pys xs) = true := by simpa [pys, PyData.canLayAll0] using l
    exact .cons (Rep.dp x v l'.1 r) (Reps.dp xs ws l'.2 q)
end
def rLen (K : PySem.W.Frag) (b : Bool) : R2 := fun x y H Q => ∃ p q xs ys, x = .ref p ∧ y = .ref q ∧ SqL K H p xs ∧ SqL K H q ys ∧ xs.length ≠ ys.length ∧ Q (.bl b) H
theorem op_eqLen (hu : X.A.units + 64 < cLine) : OpR X (compareOp .Eq) (rLen X.K false) := by
  intro pins s σ H x y v u Q I rx ry ⟨p, q, xs, ys, e1, e2, h1, h2, hn, k⟩
  subst e1 e2
  cases rx
  cases ry
  obtain ⟨i1, r1, p1, _⟩ := I.list h1
  obtain ⟨i2, r2, p2, _⟩ := I.list h2
  exact SeqAt.eq_list_lengthsAt p1.isList p2.isList (by simp only [List.size_toArray, ← r1.length, ← r2.length]; simpa using hn) (by omega) ⟨.bl false, H, I, rfl, k⟩
theorem op_neLen (hu : X.A.units + 64 < cLine) : OpR X (compareOp .NotEq) (rLen X.K true) := by
  intro pins s σ H x y v u Q I rx ry ⟨p, q, xs, ys, e1, e2, h1, h2, hn, k⟩
  subst e1 e2
  cases rx
  cases ry
  obtain ⟨i1, r1, p1, _⟩ := I.list h1
  obtain ⟨i2, r2, p2, _⟩ := I.list h2
  exact SeqAt.RcNeAt.lists_lengths p1.isList p2.isList (by simp only [List.size_toArray, ← r1.length, ← r2.length]; simpa using hn) (by omega) _ _ _ _ ⟨.bl true, H, I, rfl, k⟩
theorem Rep.len_ne {K : PySem.W.Frag} {S : Addr → Prop} {H : Hp} {xs ys : List D} {v w : V} {b : Bool} {Q : VK} (h : xs.length ≠ ys.length) (rd : Rep K S H (.lst xs) v) (re : Rep K S H (.lst ys) w) (k : Q (.bl b) H) : rLen K b v w H Q := by
  obtain ⟨p, vs, rfl, r1, _, q1⟩ := rd
  obtain ⟨q, ws, rfl, r2, _, q2⟩ := re
  exact ⟨p, q, vs, ws, rfl, rfl, r1.sq, r2.sq, by rw [q1.len, q2.len]; exact h, k⟩
theorem v2_eq : V2 G X Wx eqD (fun x y H Q => (rEqD X.K x y H Q ∨ rLen X.K false x y H Q) ∨ rEq x y H Q) := by
  intro c σ ρ H n P PX d e v w Q I rd re ⟨h, q⟩ hg hx
  rcases h with ⟨h1, h2⟩ | h | h
  · exact .inl (.inl ⟨py d, py e, Rep.dp d v (SeqAt.canLay_of_shaped h1) rd, Rep.dp e w (SeqAt.canLay_of_shaped h2) re, h1, h2, hg.at (d := .bl _) q I rfl⟩)
  · obtain ⟨xs, ys, rfl, rfl, hn, he⟩ := difL_eqv h
    refine .inl (.inr (Rep.len_ne hn rd re ?_))
    have q : P (.bl (PyData.eqv (py (.lst xs)) (py (.lst ys)))) n := q
    rw [he] at q
    exact hg.at (d := .bl false) q I rfl
  · unfold strS at h
    split at h
    · rename_i a b
      obtain ⟨rfl, _⟩ := rd
      obtain ⟨rfl, _⟩ := re
      have q : P (.bl (PyData.eqv (py (.str a)) (py (.str b)))) n := q
      have e2 : PyData.eqv (py (.str a)) (py (.str b)) = decide (V.str a = V.str b) := by
        simp only [py, PyData.eqv]
        by_cases z : a = b
        · subst z; simp
        · have z2 : ¬ V.str a = V.str b := fun k => z (by cases k; rfl)
          simp [z]
      rw [e2] at q
      exact .inr ⟨rfl, hg.at (d := .bl _) q I rfl⟩
    · cases h
theorem v2_ne : V2 G X Wx neD (fun x y H Q => (rNeD X.K x y H Q ∨ rLen X.K true x y H Q) ∨ rNe x y H Q) := by
  intro c σ ρ H n P PX d e v w Q I rd re ⟨h, q⟩ hg hx
  rcases h with ⟨h1, h2⟩ | h | h
  · exact .inl (.inl ⟨py d, py e, Rep.dp d v (SeqAt.canLay_of_shaped h1) rd, Rep.dp e w (SeqAt.canLay_of_shaped h2) re, h1, h2, hg.at (d := .bl _) q I rfl⟩)
  · obtain ⟨xs, ys, rfl, rfl, hn, he⟩ := difL_eqv h
    refine .inl (.inr (Rep.len_ne hn rd re ?_))
    have q : P (.bl (!PyData.eqv (py (.lst xs)) (py (.lst ys)))) n := q
    rw [he] at q
    exact hg.at (d := .bl true) q I rfl
  · unfold strS at h
    split at h
    · rename_i a b
      obtain ⟨rfl, _⟩ := rd
      obtain ⟨rfl, _⟩ := re
      have q : P (.bl (!PyData.eqv (py (.str a)) (py (.str b)))) n := q
      have e2 : PyData.eqv (py (.str a)) (py (.str b)) = decide (V.str a = V.str b) := by
        simp only [py, PyData.eqv]
        by_cases z : a = b
        · subst z; simp
        · have z2 : ¬ V.str a = V.str b := fun k => z (by cases k; rfl)
          simp [z]
      rw [e2] at q
      exact .inr ⟨rfl, hg.at (d := .bl _) q I rfl⟩
    · cases h
/-- ints or texts -/
theorem v2_ord {h : D → D → W D} {fi : Int → Int → Bool} {fs : Str → Str → Bool}
    (hh : ∀ d e n P PX, h d e n P PX → (∃ i j, d = .int i ∧ e = .int j ∧ P (.bl (fi i j)) n) ∨ ∃ i j, d = .str i ∧ e = .str j ∧ P (.bl (fs i j)) n) :
    V2 G X Wx h (fun x y H Q => (∃ i j, x = .int i ∧ y = .int j ∧ Q (.bl (fi i j)) H) ∨ ∃ i j, x = .str i ∧ y = .str j ∧ Q (.bl (fs i j)) H) := by
  intro c σ ρ H n P PX d e v w Q I rd re q hg hx
  rcases hh d e n P PX q with ⟨i, j, rfl, rfl, q2⟩ | ⟨i, j, rfl, rfl, q2⟩
  · cases rd; cases re; exact .inl ⟨i, j, rfl, rfl, hg.at (d := .bl (fi i j)) q2 I rfl⟩
  · obtain ⟨rfl, _⟩ := rd; obtain ⟨rfl, _⟩ := re; exact .inr ⟨i, j, rfl, rfl, hg.at (d := .bl (fs i j)) q2 I rfl⟩
theorem v2_lt : V2 G X Wx ltD (fun x y H Q => (∃ i j, x = .int i ∧ y = .int j ∧ Q (.bl (decide (i < j))) H) ∨ ∃ i j, x = .str i ∧ y = .str j ∧ Q (.bl (decide (i.cps.toList < j.cps.toList))) H) :=
  v2_ord (fi := fun i j => decide (i < j)) (fs := fun i j => decide (i.cps.toList < j.cps.toList)) fun d e n P PX q => by
    unfold ltD at q
    split at q
    · exact .inl ⟨_, _, rfl, rfl, q⟩
    · exact .inr ⟨_, _, rfl, rfl, q⟩
    · exact q.elim
theorem v2_le : V2 G X Wx leD (fun x y H Q => (∃ i j, x = .int i ∧ y = .int j ∧ Q (.bl (decide (i ≤ j))) H) ∨ ∃ i j, x = .str i ∧ y = .str j ∧ Q (.bl (!decide (j.cps.toList < i.cps.toList))) H) :=
  v2_ord (fi := fun i j => decide (i ≤ j)) (fs := fun i j => !decide (j.cps.toList < i.cps.toList)) fun d e n P PX q => by
    unfold leD at q
    split at q
    · exact .inl ⟨_, _, rfl, rfl, q⟩
    · exact .inr ⟨_, _, rfl, rfl, q⟩
    · exact q.elim
theorem v2_gt : V2 G X Wx gtD (fun x y H Q => (∃ i j, x = .int i ∧ y = .int j ∧ Q (.bl (decide (j < i))) H) ∨ ∃ i j, x = .str i ∧ y = .str j ∧ Q (.bl (decide (j.cps.toList < i.cps.toList))) H) :=
  v2_ord (fi := fun i j => decide (j < i)) (fs := fun i j => decide (j.cps.toList < i.cps.toList)) fun d e n P PX q => by
    unfold gtD at q
    split at q
    · exact .inl ⟨_, _, rfl, rfl, q⟩
    · exact .inr ⟨_, _, rfl, rfl, q⟩
    · exact q.elim
theorem v2_ge : V2 G X Wx geD (fun x y H Q => (∃ i j, x = .int i ∧ y = .int j ∧ Q (.bl (decide (j ≤ i))) H) ∨ ∃ i j, x = .str i ∧ y = .str j ∧ Q (.bl (!decide (i.cps.toList < j.cps.toList))) H) :=
  v2_ord (fi := fun i j => decide (j ≤ i)) (fs := fun i j => !decide (i.cps.toList < j.cps.toList)) fun d e n P PX q => by
    unfold geD at q
    split at q
    · exact .inl ⟨_, _, rfl, rfl, q⟩
    · exact .inr ⟨_, _, rfl, rfl, q⟩
    · exact q.elim
theorem Rep.isN {K : PySem.W.Frag} {S : Addr → Prop} {H : Hp} {d : D} {v : V} (r : Rep K S H d v) : decide (v = .non) = isNone d := by
  cases d with
  | non => cases r; rfl
  | bl _ => cases r; rfl
  | int _ => cases r; rfl
  | str _ => obtain ⟨rfl, _⟩ := r; rfl
  | lst _ => obtain ⟨_, _, rfl, _⟩ := r; rfl
  | tup _ => obtain ⟨_, _, rfl, _⟩ := r; rfl
  | dic _ => obtain ⟨_, _, rfl, _⟩ := r; rfl
theorem v2_is : V2 G X Wx isND (fun x y H Q => (y = .non ∧ Q (.bl (decide (x = .non))) H) ∨ rIsB x y H Q) := by
  intro c σ ρ H n P PX d e v w Q I rd re q hg hx
  cases e with
  | non => cases re; exact .inl ⟨rfl, by rw [rd.isN]; exact hg.at (d := .bl _) q I rfl⟩
  | bl y =>
    cases d with
    | bl x => cases re; cases rd; exact .inr ⟨x, y, rfl, rfl, hg.at (d := .bl _) q I rfl⟩
    | _ => exact q.elim
  | _ => exact q.elim
theorem v2_isnot : V2 G X Wx notND (fun x y H Q => (y = .non ∧ Q (.bl (!decide (x = .non))) H) ∨ rNotB x y H Q) := by
  intro c σ ρ H n P PX d e v w Q I rd re q hg hx
  cases e with
  | non => cases re; exact .inl ⟨rfl, by rw [rd.isN]; exact hg.at (d := .bl _) q I rfl⟩
  | bl y =>
    cases d with
    | bl x => cases re; cases rd; exact .inr ⟨x, y, rfl, rfl, hg.at (d := .bl _) q I rfl⟩
    | _ => exact q.elim
  | _ => exact q.elim
/-- a comparison's rule: operator, function over data -/
structure Cm (G : PenK) (X : Cx) (Wx : WX) (op : CmpOp) (h : D → D → W D) : Prop where
  ex : ∃ r, OpR X (compareOp op) r ∧ V2 G X Wx h r
theorem cm_eq (hu : X.A.units + 64 < cLine) : Cm G X Wx .Eq eqD := ⟨_, ((op_eqD hu).or (op_eqLen hu)).or op_eq, v2_eq⟩
theorem cm_ne (hu : X.A.units + 64 < cLine) : Cm G X Wx .NotEq neD := ⟨_, ((op_neD hu).or (op_neLen hu)).or op_ne, v2_ne⟩
theorem cm_lt : Cm G X Wx .Lt ltD := ⟨_, op_lt.or op_lt_str, v2_lt⟩
theorem cm_le : Cm G X Wx .LtE leD := ⟨_, op_le.or op_le_str, v2_le⟩
theorem cm_gt : Cm G X Wx .Gt gtD := ⟨_, op_gt.or op_gt_str, v2_gt⟩
theorem cm_ge : Cm G X Wx .GtE geD := ⟨_, op_ge.or op_ge_str, v2_ge⟩
theorem cm_is : Cm G X Wx .Is isND := ⟨_, op_isN.or op_isBl, v2_is⟩
theorem cm_isnot : Cm G X Wx .IsNot notND := ⟨_, op_notN.or op_notBl, v2_isnot⟩
theorem e_cmp {op : CmpOp} {a b : Expr} {pos : Pos} {ga gb : Env → W D} {h : D → D → W D} (m : Cm G X Wx op h) (ha : E G X Wx a ga) (hb : E G X Wx b gb) (hm : behindInMarks op b = false := by rfl) :
    E G X Wx (.Compare a [op] [b] pos) (fun ρ => bnd (ga ρ) fun x => bnd (gb ρ) fun y => h x y) := by
  obtain ⟨r, o, v⟩ := m.ex
  exact e_cmpR o v ha hb hm
def thenB (m : W D) (k : W D) : W D := bnd m fun z => match z with
  | .bl true => k
  | .bl false => ret (.bl false)
  | _ => stuck
def blB : D → W Bool
  | .bl b => ret b
  | _ => stuck
/-- a value's law as a test's -/
theorem tE_test {g : Env → W D} {σ : L2.St} {H : Hp} {Q : Bool → Hp → Prop} (h : tT G X Wx (fun ρ => bnd (g ρ) blB) σ H Q) : tE G X Wx g σ H (fun x H' => ∃ k, x = .bl k ∧ Q k H') := by
  obtain ⟨c, ρ, n, P, PX, I, q, hg, hx⟩ := h
  refine ⟨c, ρ, n, _, PX, I, q, fun d k v S' H' p g I' r => ?_, hx⟩
  cases d with
  | bl b => cases r; exact ⟨b, rfl, hg b k S' H' p g I'⟩
  | _ => exact p.elim
theorem tOp_law {ga gb : Env → W D} {h : D → D → W D} {r : R2} (v : V2 G X Wx h r) {σ : L2.St} {H : Hp} {Q : VK} (hh : tE G X Wx (fun ρ => bnd (ga ρ) fun x => bnd (gb ρ) fun y => h x y) σ H Q) : tOp r (tE G X Wx ga) (tE G X Wx gb) σ H Q := by
  obtain ⟨c, ρ, n, P, PX, I, q, hg, hx⟩ := hh
  exact tE.bnd I q hx fun d k u S' H' p g I' hx' r' =>
    tE.bnd I' p hx' fun d2 k2 u2 S2 H2 p2 g2 I2 hx2 r2 => v _ σ ρ H2 k2 P PX d d2 u u2 Q I2 (Rep.grow g2 _ _ r') r2 p2 (hg.grow (g.trans g2)) hx2
/-- a test a < b -/
theorem t_cmp {op : CmpOp} {a b : Expr} {pos : Pos} {ga gb : Env → W D} {h : D → D → W D} (m : Cm G X Wx op h) (ha : E G X Wx a ga) (hb : E G X Wx b gb) (hm : behindInMarks op b = false := by rfl) :
    T G X Wx (.Compare a [op] [b] pos) (fun ρ => bnd (bnd (ga ρ) fun x => bnd (gb ρ) fun y => h x y) blB) := by
  obtain ⟨r, o, v⟩ := m.ex
  exact weakT (pt_cmpR o ha hb hm) fun σ H Q q => tOp_law v (tE_test q)
theorem tChain_law {ga gb gd : Env → W D} {h h' : D → D → W D} {r r' : R2} (v : V2 G X Wx h r) (v' : V2 G X Wx h' r') {σ : L2.St} {H : Hp} {Q : VK} (hh : tE G X Wx (fun ρ => bnd (ga ρ) fun x => bnd (gb ρ) fun y => thenB (h x y) (bnd (gd ρ) fun z => h' y z)) σ H Q) : tChain r r' (tE G X Wx ga) (tE G X Wx gb) (tE G X Wx gd) σ H Q := by
  obtain ⟨c, ρ, n, P, PX, I, q, hg, hx⟩ := hh
  refine tE.bnd I q hx fun d1 k u S' H' p g I' hx' r1 =>
    tE.bnd I' p hx' fun d2 k2 u2 S2 H2 p2 g2 I2 hx2 r2 => v _ σ ρ H2 k2 (fun z k => (match z with
      | .bl true => bnd (gd ρ) fun z => h' d2 z
      | .bl false => ret (.bl false)
      | _ => stuck : W D) k P PX) PX d1 d2 u u2 _ I2 (Rep.grow g2 _ _ r1) r2 p2 (fun z k3 w S3 H3 p3 g3 I3 r3 => ?_) hx2
  cases z with
  | bl b =>
    cases r3
    cases b with
    | true => exact ⟨true, rfl, iteT (tE.bnd I3 p3 (hx2.grow g3) fun d4 k4 u4 S4 H4 p4 g4 I4 hx4 r4 => v' _ σ ρ H4 k4 P PX d2 d4 u2 u4 Q I4 (Rep.grow (g3.trans g4) _ _ r2) r4 p4 (hg.grow (g.trans (g2.trans (g3.trans g4)))) hx4)⟩
    | false => exact ⟨false, rfl, iteF ((hg.grow (g.trans (g2.trans g3))).at (d := .bl false) p3 I3 rfl)⟩
  | _ => exact p3.elim
/-- a < b < c -/
theorem e_chain {op op' : CmpOp} {a b d : Expr} {pos : Pos} {ga gb gd : Env → W D} {h h' : D → D → W D} (m : Cm G X Wx op h) (m' : Cm G X Wx op' h') (ha : E G X Wx a ga) (hb : E G X Wx b gb) (hd : E G X Wx d gd)
    (hm : lastMarks [op, op'] [b, d] = false := by with_unfolding_all rfl) :
    E G X Wx (.Compare a [op, op'] [b, d] pos) (fun ρ => bnd (ga ρ) fun x => bnd (gb ρ) fun y => thenB (h x y) (bnd (gd ρ) fun z => h' y z)) := by
  obtain ⟨r, o, v⟩ := m.ex
  obtain ⟨r', o', v'⟩ := m'.ex
  exact weakE (pe_chain o o' ha hb hd hm) fun σ H Q q => tChain_law v v' q
/-- a test a < b < c -/
theorem t_chain {op op' : CmpOp} {a b d : Expr} {pos : Pos} {ga gb gd : Env → W D} {h h' : D → D → W D} (m : Cm G X Wx op h) (m' : Cm G X Wx op' h') (ha : E G X Wx a ga) (hb : E G X Wx b gb) (hd : E G X Wx d gd)
    (hm : lastMarks [op, op'] [b, d] = false := by with_unfolding_all rfl) :
    T G X Wx (.Compare a [op, op'] [b, d] pos) (fun ρ => bnd (bnd (ga ρ) fun x => bnd (gb ρ) fun y => thenB (h x y) (bnd (gd ρ) fun z => h' y z)) blB) := by
  obtain ⟨r, o, v⟩ := m.ex
  obtain ⟨r', o', v'⟩ := m'.ex
  exact weakT (pt_chain o o' ha hb hd hm) fun σ H Q q => tChain_law v v' (tE_test q)
end
end PL

/-! The layer: truth, displays, subscripts, slices, arguments, built-ins. -/
namespace PL
open PySem PySem.Spec L2

section
variable {G : PenK} {X : Cx} {Wx : WX}

/-! ### truth -/
theorem Rep.tru {K : PySem.W.Frag} {S : Addr → Prop} {H : Hp} {d : D} {v : V} {n : Nt} {P : Bool → Nt → Prop} {PX : Exc → Nt → Prop} (r : Rep K S H d v) (q : PL.tru d n P PX) : ∃ b, TruV K v H b ∧ P b n := by
  cases d with
  | non => cases r; exact ⟨_, rfl, q⟩
  | bl _ => cases r; exact ⟨_, rfl, q⟩
  | int _ => cases r; exact ⟨_, rfl, q⟩
  | str _ => obtain ⟨rfl, z⟩ := r; exact ⟨_, ⟨z, rfl⟩, q⟩
  | lst xs =>
    obtain ⟨a, vs, rfl, r1, _, q1⟩ := r
    refine ⟨!xs.isEmpty, .inl ⟨vs, r1.sq, ?_⟩, q⟩
    have := q1.len
    cases xs <;> cases vs <;> first | rfl | cases this
  | tup xs =>
    obtain ⟨a, vs, rfl, r1, _, q1⟩ := r
    refine ⟨!xs.isEmpty, .inr (.inl ⟨vs, r1.sq, ?_⟩), q⟩
    have := q1.len
    cases xs <;> cases vs <;> first | rfl | cases this
  | dic kvs =>
    exact q.elim
theorem t_truth {e : Expr} {g : Env → W D} (h : E G X Wx e g) (he : ∀ whole, isTrue e X.env whole = (do let v ← whole; standAt e.pos; holding [v] (truthy v)) := by intro _; rfl) : T G X Wx e (fun ρ => bnd (g ρ) tru) :=
  weakT (pt_truth h he) fun σ H Q ⟨c, ρ, n, P, PX, I, q, hg, hx⟩ => tE.bnd I q hx fun d k u S' H' p g I' hx' r => by
    obtain ⟨b, h1, h2⟩ := r.tru p
    exact ⟨b, h1, hg b k S' H' h2 g I'⟩
theorem t_not {e : Expr} {pos : Pos} {g : Env → W Bool} (h : T G X Wx e g) : T G X Wx (.UnaryOp .Not e pos) (fun ρ => bnd (g ρ) fun b => ret (!b)) :=
  weakT (pt_not h) fun σ H Q ⟨c, ρ, n, P, PX, I, q, hg, hx⟩ => tT.bnd I q hx fun b k S' H' p g I' hx' => hg (!b) k S' H' p g I'
def TW (G : PenK) (X : Cx) (Wx : WX) (e : Expr) (g : Env → W Bool) : Prop := PW X e (tT G X Wx g)
theorem tw_and1 {e : Expr} {pos : Pos} {g : Env → W Bool} (h : T G X Wx e g) : TW G X Wx (.BoolOp .And [e] pos) g := pw_and1 h
theorem tw_or1 {e : Expr} {pos : Pos} {g : Env → W Bool} (h : T G X Wx e g) : TW G X Wx (.BoolOp .Or [e] pos) g := pw_or1 h
theorem tw_and {a b : Expr} {rest : List Expr} {pos : Pos} {ga gb : Env → W Bool} (ha : T G X Wx a ga) (hb : TW G X Wx (.BoolOp .And (b :: rest) pos) gb) :
    TW G X Wx (.BoolOp .And (a :: b :: rest) pos) (fun ρ => bnd (ga ρ) fun x => if x = true then gb ρ else ret false) :=
  weakW (pw_and ha hb) fun σ H Q ⟨c, ρ, n, P, PX, I, q, hg, hx⟩ => tT.bnd I q hx fun b k S' H' p g I' hx' => by
    cases b with
    | true => exact iteT ⟨_, ρ, k, P, PX, I', p, hg.grow g, hx'⟩
    | false => exact iteF (hg false k S' H' p g I')
theorem tw_or {a b : Expr} {rest : List Expr} {pos : Pos} {ga gb : Env → W Bool} (ha : T G X Wx a ga) (hb : TW G X Wx (.BoolOp .Or (b :: rest) pos) gb) :
    TW G X Wx (.BoolOp .Or (a :: b :: rest) pos) (fun ρ => bnd (ga ρ) fun x => if x = true then ret true else gb ρ) :=
  weakW (pw_or ha hb) fun σ H Q ⟨c, ρ, n, P, PX, I, q, hg, hx⟩ => tT.bnd I q hx fun b k S' H' p g I' hx' => by
    cases b with
    | true => exact iteT (hg true k S' H' p g I')
    | false => exact iteF ⟨_, ρ, k, P, PX, I', p, hg.grow g, hx'⟩
theorem TW.t {e : Expr} {g : Env → W Bool} (h : TW G X Wx e g) : T G X Wx e g := PW.pt h
/-- and, or as values -/
theorem e_one {op} {a : Expr} {pos : Pos} {g : Env → W D} (h : E G X Wx a g) : E G X Wx (.BoolOp op [a] pos) g := pe_one h
theorem e_and {a b : Expr} {rest : List Expr} {pos : Pos} {ga gb : Env → W D} (ha : E G X Wx a ga) (hb : E G X Wx (.BoolOp .And (b :: rest) pos) gb) :
    E G X Wx (.BoolOp .And (a :: b :: rest) pos) (fun ρ => bnd (ga ρ) fun x => bnd (tru x) fun k => if k = true then gb ρ else ret x) :=
  weakE (pe_andT ha hb) fun σ H Q ⟨c, ρ, n, P, PX, I, q, hg, hx⟩ => tE.bnd I q hx fun d k u S' H' p g I' hx' r => by
    obtain ⟨b, h1, h2⟩ := r.tru p
    refine ⟨b, h1, ?_⟩
    cases b with
    | true => exact iteT ⟨_, ρ, k, P, PX, I', h2, hg.grow g, hx'⟩
    | false => exact iteF (hg d k u S' H' h2 g I' r)
theorem e_or {a b : Expr} {rest : List Expr} {pos : Pos} {ga gb : Env → W D} (ha : E G X Wx a ga) (hb : E G X Wx (.BoolOp .Or (b :: rest) pos) gb) :
    E G X Wx (.BoolOp .Or (a :: b :: rest) pos) (fun ρ => bnd (ga ρ) fun x => bnd (tru x) fun k => if k = true then ret x else gb ρ) :=
  weakE (pe_orT ha hb) fun σ H Q ⟨c, ρ, n, P, PX, I, q, hg, hx⟩ => tE.bnd I q hx fun d k u S' H' p g I' hx' r => by
    obtain ⟨b, h1, h2⟩ := r.tru p
    refine ⟨b, h1, ?_⟩
    cases b with
    | true => exact iteT (hg d k u S' H' h2 g I' r)
    | false => exact iteF ⟨_, ρ, k, P, PX, I', h2, hg.grow g, hx'⟩
theorem e_not {a : Expr} {pos : Pos} {ga : Env → W D} (ha : E G X Wx a ga) : E G X Wx (.UnaryOp .Not a pos) (fun ρ => bnd (ga ρ) fun x => bnd (tru x) fun k => ret (.bl (!k))) :=
  weakE (pe_notT ha) fun σ H Q ⟨c, ρ, n, P, PX, I, q, hg, hx⟩ => tE.bnd I q hx fun d k u S' H' p g I' hx' r => by
    obtain ⟨b, h1, h2⟩ := r.tru p
    exact ⟨b, h1, hg (.bl (!b)) k _ S' H' h2 g I' rfl⟩
theorem e_if {t a b : Expr} {pos : Pos} {gt : Env → W Bool} {ga gb : Env → W D} (ht : T G X Wx t gt) (ha : E G X Wx a ga) (hb : E G X Wx b gb) :
    E G X Wx (.IfExp t a b pos) (fun ρ => bnd (gt ρ) fun x => if x = true then ga ρ else gb ρ) :=
  weakE (pe_ifExp ht ha hb) fun σ H Q ⟨c, ρ, n, P, PX, I, q, hg, hx⟩ => tT.bnd I q hx fun b k S' H' p g I' hx' => by
    cases b with
    | true => exact iteT ⟨_, ρ, k, P, PX, I', p, hg.grow g, hx'⟩
    | false => exact iteF ⟨_, ρ, k, P, PX, I', p, hg.grow g, hx'⟩

/-! ### arguments, displays -/
theorem a_nil : A G X Wx [] (fun _ => ret []) := weakA pa_nil fun σ H Q ⟨c, ρ, n, P, PX, I, q, hg, hx⟩ => hg [] n [] c.S H q .refl I rfl
theorem a_cons {e : Expr} {es : List Expr} {g : Env → W D} {gs : Env → W (List D)} (h : E G X Wx e g) (hs : A G X Wx es gs) (hp : starEach (e :: es) X.env = (false, eval e X.env) :: starEach es X.env := by rfl) :
    A G X Wx (e :: es) (fun ρ => bnd (g ρ) fun x => bnd (gs ρ) fun xs => ret (x :: xs)) :=
  weakA (pa_cons h hs hp) fun σ H Q ⟨c, ρ, n, P, PX, I, q, hg, hx⟩ => tE.bnd I q hx fun d k u S' H' p g I' hx' r => tAr.bnd I' p hx' fun ds k2 us S2 H2 p2 g2 I2 hx2 r2 =>
    hg (d :: ds) k2 (u :: us) S2 H2 p2 (g.trans g2) I2 ⟨u, us, rfl, Rep.grow g2 _ _ r, r2⟩
def few (xs : List D) (m : W α) : W α := grd (xs.length ≤ sizeLine) m
theorem e_tup {es : List Expr} {x1 : Nat} {pos : Pos} {gs : Env → W (List D)} (h : A G X Wx es gs) : E G X Wx (.Tuple es x1 pos) (fun ρ => bnd (gs ρ) fun xs => few xs (ret (.tup xs))) :=
  weakE (pe_tupZ h) fun σ H Q ⟨c, ρ, n, P, PX, I, q, hg, hx⟩ => tAr.bnd I q hx fun ds k us S' H' ⟨z, p⟩ g I' hx' r => ⟨by rw [r.len]; exact z, fun a o ha hd =>
    (hg.grow g).new p I' ha fun g2 => ⟨a, us, rfl, .inl ⟨.inr rfl, o, upd_same, hd⟩, z, Reps.grow g2 _ _ r⟩⟩
theorem o_lst {es : List Expr} {pos : Pos} {gs : Env → W (List D)} (h : A G X Wx es gs) : EO G X Wx (.List es pos) (fun ρ => bnd (gs ρ) fun xs => few xs (ret xs)) :=
  weakE (pe_lst h) fun σ H Q ⟨c, ρ, n, P, PX, I, q, hg, hx⟩ => tAr.bnd I q hx fun ds k us S' H' ⟨z, p⟩ g I' hx' r => ⟨by rw [r.len]; exact z, fun a ha =>
    (hg.grow g).new p I' ha z r⟩

/-! ### subscripts, slices -/
theorem atI_len {α β : Type} {xs : List α} {ys : List β} {i : Int} {y : β} (e : xs.length = ys.length) (h : atI ys i = some y) : ∃ j : Nat, ys[j]? = some y ∧ ∀ x : α, xs[j]? = some x → atI xs i = some x := by
  unfold atI at *
  cases q : ixN ys.length i with
  | none => rw [q] at h; cases h
  | some j =>
    rw [q] at h
    exact ⟨j, h, fun x hx => by rw [e, q]; exact hx⟩
theorem v2_ix : V2 G X Wx ixD (rIx X.K) := by
  intro c σ ρ H n P PX d e v w Q I rd re q hg hx
  cases e with
  | int i =>
    cases re
    cases d with
    | lst xs =>
      obtain ⟨a, vs, rfl, r1, _, q1⟩ := rd
      have q : (match atI xs i with | some x => ret x | none => stuck : W D) n P PX := q
      cases hx : atI xs i with
      | none => rw [hx] at q; exact q.elim
      | some x =>
        rw [hx] at q
        obtain ⟨j, e1, e2⟩ := atI_len q1.len hx
        obtain ⟨u, h1, h2⟩ := Reps.at q1 e1
        exact .inl ⟨a, vs, _, u, rfl, rfl, r1.sq, e2 u h1, hg.at q I h2⟩
    | tup xs =>
      obtain ⟨a, vs, rfl, r1, _, q1⟩ := rd
      have q : (match atI xs i with | some x => ret x | none => stuck : W D) n P PX := q
      cases hx : atI xs i with
      | none => rw [hx] at q; exact q.elim
      | some x =>
        rw [hx] at q
        obtain ⟨j, e1, e2⟩ := atI_len q1.len hx
        obtain ⟨u, h1, h2⟩ := Reps.at q1 e1
        exact .inr (.inl ⟨a, vs, _, u, rfl, rfl, r1.sq, e2 u h1, hg.at q I h2⟩)
    | str z =>
      obtain ⟨rfl, hz⟩ := rd
      have q : (match atI z.cps.toList i with | some k => ret (.str ⟨#[k]⟩) | none => stuck : W D) n P PX := q
      cases hx : atI z.cps.toList i with
      | none => rw [hx] at q; exact q.elim
      | some k =>
        rw [hx] at q
        exact .inr (.inr ⟨_, _, k, rfl, rfl, hz, hx, hg.at (d := .str ⟨#[k]⟩) q I ⟨rfl, by rw [sizeLine_eq]; show 1 ≤ 16777216; decide⟩⟩)
    | _ => exact q.elim
  | _ => cases d <;> exact q.elim
theorem e_ix {a b : Expr} {pos : Pos} {ga gb : Env → W D} (ha : E G X Wx a ga) (hb : E G X Wx b gb) (hs : PlainIx b := by intro _ _; rfl) : E G X Wx (.Subscript a b pos) (fun ρ => bnd (ga ρ) fun x => bnd (gb ρ) fun y => ixD x y) :=
  two_parts v2_ix ha hb (pe_ix ix_seq ha hb hs)
/-- a part of a slice -/
def PP (G : PenK) (X : Cx) (Wx : WX) (e : Option Expr) (g : Env → W (Option Int)) : Prop :=
  ∃ t, PO X e t ∧ ∀ c ρ n P PX σ H Q, SI G X.K c σ H ρ n → g ρ n P PX → OKx G X Wx c σ ρ H PX → (∀ o k S' H', P o k → Grow c.S S' H H' → SI G X.K (c.to S') σ H' ρ k → Q o H') → t σ H Q
theorem p_none : PP G X Wx none (fun _ => ret none) := ⟨_, po_none, fun c ρ n P PX σ H Q I q hx hg => hg none n c.S H q .refl I⟩
def intO : D → W (Option Int)
  | .int i => ret (some i)
  | _ => stuck
theorem p_some {e : Expr} {g : Env → W D} (h : E G X Wx e g) : PP G X Wx (some e) (fun ρ => bnd (g ρ) intO) :=
  ⟨_, po_some h, fun c ρ n P PX σ H Q I q hx hg => tE.bnd I q hx fun d k u S' H' p g I' hx' r => by
    cases d with
    | int i => cases r; exact ⟨i, rfl, hg (some i) k S' H' p g I'⟩
    | _ => exact p.elim⟩
def slD (d : D) (lo hi : Option Int) : W D := match d with
  | .tup xs => ret (.tup (cutD xs lo hi))
  | .str z => ret (.str (cutS z lo hi))
  | .lst xs => ret (.lst (cutD xs lo hi))
  | _ => stuck
def slL (d : D) (lo hi : Option Int) : W (List D) := match d with
  | .lst xs => ret (cutD xs lo hi)
  | _ => stuck
theorem Reps.cut {K : PySem.W.Frag} {S : Addr → Prop} {H : Hp} {xs : List D} {vs : List V} {lo hi : Option Int} (r : Reps K S H xs vs) : Reps K S H (cutD xs lo hi) (cutV vs lo hi) := by
  unfold cutD cutV
  rw [r.len]
  exact Reps.take _ (Reps.drop _ r)
theorem cutD_len {α : Type} (xs : List α) (lo hi : Option Int) : (cutD xs lo hi).length ≤ xs.length := by
  unfold cutD
  rw [List.length_take, List.length_drop]
  omega
theorem cutD_all {α : Type} {xs : List α} {lo hi : Option Int} (h : HT.sIx xs.length 0 lo = 0 ∧ HT.sIx xs.length xs.length hi = xs.length) : cutD xs lo hi = xs := by
  unfold cutD
  rw [h.1, h.2]
  exact List.take_length
theorem e_sl {e : Expr} {lo hi : Option Expr} {p2 pos : Pos} {g : Env → W D} {gl gh : Env → W (Option Int)} (h : E G X Wx e g) (hl : PP G X Wx lo gl) (hh : PP G X Wx hi gh) :
    E G X Wx (.Subscript e (.Slice lo hi none p2) pos) (fun ρ => bnd (g ρ) fun x => bnd (gl ρ) fun i => bnd (gh ρ) fun j => slD x i j) := by
  obtain ⟨tl, hl1, hl2⟩ := hl
  obtain ⟨th, hh1, hh2⟩ := hh
  refine weakE (pe_slice (sl_tupZ.or (sl_str.or sl_list)) h hl1 hh1) fun σ H Q ⟨c, ρ, n, P, PX, I, q, hg, hx⟩ => tE.bnd I q hx fun d k u S' H' p g I' hx' r =>
    hl2 _ ρ k (fun i k => bnd (gh ρ) (fun j => slD d i j) k P PX) PX σ H' _ I' p hx' fun i k2 S2 H2 p2 g2 I2 => hh2 _ ρ k2 (fun j k => slD d i j k P PX) PX σ H2 _ I2 p2 (hx'.grow g2) fun j k3 S3 H3 p3 g3 I3 => ?_
  have r3 := Rep.grow (g2.trans g3) _ _ r
  have hg3 := hg.grow (g.trans (g2.trans g3))
  cases d with
  | tup xs =>
    obtain ⟨a, vs, rfl, r1, z, q1⟩ := id r3
    refine .inl ⟨a, vs, rfl, r1.sq, fun hw => ?_, fun _ b o hb hd => hg3.new p3 I3 hb fun g4 => ⟨b, _, rfl, .inl ⟨.inr rfl, o, upd_same, hd⟩, Nat.le_trans (cutD_len _ _ _) z, Reps.grow g4 _ _ q1.cut⟩⟩
    rw [q1.len] at hw
    have p3' : P (.tup (cutD xs i j)) k3 := p3
    rw [cutD_all hw] at p3'
    exact hg3.at p3' I3 r3
  | str z =>
    obtain ⟨rfl, hz⟩ := r3
    exact .inr (.inl ⟨z, rfl, hz, hg3.at (d := .str (cutS z i j)) p3 I3 ⟨rfl, Nat.le_trans (cutS_length z i j) hz⟩⟩)
  | lst xs =>
    obtain ⟨a, vs, rfl, r1, z, q1⟩ := r3
    exact .inr (.inr ⟨a, vs, rfl, r1.sq, fun b hb => hg3.new p3 I3 hb fun g4 => ⟨b, _, rfl, ⟨.inr rfl, upd_same⟩, Nat.le_trans (cutD_len _ _ _) z, Reps.grow g4 _ _ q1.cut⟩⟩)
  | _ => exact p3.elim
theorem o_sl {e : Expr} {lo hi : Option Expr} {p2 pos : Pos} {g : Env → W D} {gl gh : Env → W (Option Int)} (h : E G X Wx e g) (hl : PP G X Wx lo gl) (hh : PP G X Wx hi gh) :
    EO G X Wx (.Subscript e (.Slice lo hi none p2) pos) (fun ρ => bnd (g ρ) fun x => bnd (gl ρ) fun i => bnd (gh ρ) fun j => slL x i j) := by
  obtain ⟨tl, hl1, hl2⟩ := hl
  obtain ⟨th, hh1, hh2⟩ := hh
  refine weakE (pe_slice sl_list h hl1 hh1) fun σ H Q ⟨c, ρ, n, P, PX, I, q, hg, hx⟩ => tE.bnd I q hx fun d k u S' H' p g I' hx' r =>
    hl2 _ ρ k (fun i k => bnd (gh ρ) (fun j => slL d i j) k P PX) PX σ H' _ I' p hx' fun i k2 S2 H2 p2 g2 I2 => hh2 _ ρ k2 (fun j k => slL d i j k P PX) PX σ H2 _ I2 p2 (hx'.grow g2) fun j k3 S3 H3 p3 g3 I3 => ?_
  have r3 := Rep.grow (g2.trans g3) _ _ r
  cases d with
  | lst xs =>
    obtain ⟨a, vs, rfl, r1, z, q1⟩ := r3
    exact ⟨a, vs, rfl, r1.sq, fun b hb => (hg.grow (g.trans (g2.trans g3))).new p3 I3 hb (Nat.le_trans (cutD_len _ _ _) z) q1.cut⟩
  | _ => exact p3.elim

/-! ### calls of built-ins -/
theorem e_callB {x : Str} {p pos : Pos} {id : String} {e : Expr} {es : List Expr} {r : List V → Hp → VK → Prop} {gs : Env → W (List D)} {h : List D → W D} (hm : X.mg x = none) (hv : bootBuiltins x = some (.builtin id)) (o : CallR X (.builtin id) r) (v : VA G X Wx h r) (ha : A G X Wx (e :: es) gs)
    (hg : Gl X x := by rfl) (hn : x ≠ "__name__" := by decide) (hdb : (x == ("__debug__" : Str)) = false := by decide) (he : starEach (e :: es) X.env = (false, eval e X.env) :: starEach es X.env := by rfl) (hpl : (backTo pos (starEach es X.env)).any (·.1) = false := by rfl) :
    E G X Wx (.Call (.Name x p) (e :: es) [] pos) (fun ρ => bnd (gs ρ) h) :=
  weakE (pe_callB o hg hm hv ha hn hdb he hpl) fun σ H Q ⟨c, ρ, n, P, PX, I, q, hg, hx⟩ => tAr.bnd I q hx fun ds k us S' H' p g I' hx' r => v _ σ ρ H' k P PX ds us Q I' r p (hg.grow g) hx'
theorem e_callT {x : Str} {p pos : Pos} {T : String} {e : Expr} {es : List Expr} {r : List V → Hp → VK → Prop} {gs : Env → W (List D)} {h : List D → W D} (hm : X.mg x = none) (hv : bootBuiltins x = some (.type T)) (o : CallR X (.type T) r) (v : VA G X Wx h r) (ha : A G X Wx (e :: es) gs)
    (hg : Gl X x := by rfl) (hn : x ≠ "__name__" := by decide) (hdb : (x == ("__debug__" : Str)) = false := by decide) (he : starEach (e :: es) X.env = (false, eval e X.env) :: starEach es X.env := by rfl) (hpl : (backTo pos (starEach es X.env)).any (·.1) = false := by rfl) :
    E G X Wx (.Call (.Name x p) (e :: es) [] pos) (fun ρ => bnd (gs ρ) h) :=
  weakE (pe_callTy o hg hm hv ha hn hdb he hpl) fun σ H Q ⟨c, ρ, n, P, PX, I, q, hg, hx⟩ => tAr.bnd I q hx fun ds k us S' H' p g I' hx' r => v _ σ ρ H' k P PX ds us Q I' r p (hg.grow g) hx'
theorem o_callB {x : Str} {p pos : Pos} {id : String} {e : Expr} {es : List Expr} {r : List V → Hp → VK → Prop} {gs : Env → W (List D)} {h : List D → W (List D)} (hm : X.mg x = none) (hv : bootBuiltins x = some (.builtin id)) (o : CallR X (.builtin id) r) (v : VAO G X Wx h r) (ha : A G X Wx (e :: es) gs)
    (hg : Gl X x := by rfl) (hn : x ≠ "__name__" := by decide) (hdb : (x == ("__debug__" : Str)) = false := by decide) (he : starEach (e :: es) X.env = (false, eval e X.env) :: starEach es X.env := by rfl) (hpl : (backTo pos (starEach es X.env)).any (·.1) = false := by rfl) :
    EO G X Wx (.Call (.Name x p) (e :: es) [] pos) (fun ρ => bnd (gs ρ) h) :=
  weakE (pe_callB o hg hm hv ha hn hdb he hpl) fun σ H Q ⟨c, ρ, n, P, PX, I, q, hg, hx⟩ => tAr.bnd I q hx fun ds k us S' H' p g I' hx' r => v _ σ ρ H' k P PX ds us Q I' r p (hg.grow g) hx'
theorem o_callT {x : Str} {p pos : Pos} {T : String} {e : Expr} {es : List Expr} {r : List V → Hp → VK → Prop} {gs : Env → W (List D)} {h : List D → W (List D)} (hm : X.mg x = none) (hv : bootBuiltins x = some (.type T)) (o : CallR X (.type T) r) (v : VAO G X Wx h r) (ha : A G X Wx (e :: es) gs)
    (hg : Gl X x := by rfl) (hn : x ≠ "__name__" := by decide) (hdb : (x == ("__debug__" : Str)) = false := by decide) (he : starEach (e :: es) X.env = (false, eval e X.env) :: starEach es X.env := by rfl) (hpl : (backTo pos (starEach es X.env)).any (·.1) = false := by rfl) :
    EO G X Wx (.Call (.Name x p) (e :: es) [] pos) (fun ρ => bnd (gs ρ) h) :=
  weakE (pe_callTy o hg hm hv ha hn hdb he hpl) fun σ H Q ⟨c, ρ, n, P, PX, I, q, hg, hx⟩ => tAr.bnd I q hx fun ds k us S' H' p g I' hx' r => v _ σ ρ H' k P PX ds us Q I' r p (hg.grow g) hx'

theorem Reps.one_inv {K : PySem.W.Frag} {S : Addr → Prop} {H : Hp} {x : D} {vs : List V} (r : Reps K S H [x] vs) : ∃ v, vs = [v] ∧ Rep K S H x v := by
  obtain ⟨v, ws, rfl, r, e⟩ := r
  have e : ws = [] := e
  rw [e]
  exact ⟨v, rfl, r⟩
theorem Reps.two_inv {K : PySem.W.Frag} {S : Addr → Prop} {H : Hp} {x y : D} {vs : List V} (r : Reps K S H [x, y] vs) : ∃ v w, vs = [v, w] ∧ Rep K S H x v ∧ Rep K S H y w := by
  obtain ⟨v, ws, rfl, r, q⟩ := r
  obtain ⟨w, rfl, r2⟩ := Reps.one_inv q
  exact ⟨v, w, rfl, r, r2⟩
theorem va_one {f : D → W D} {r : V → Hp → VK → Prop} {r' : List V → Hp → VK → Prop} (v : V1 G X Wx f r) (h : ∀ x H Q, r x H Q → r' [x] H Q) : VA G X Wx (one f) r' := by
  intro c σ ρ H n P PX ds vs Q I rs q hg hx
  cases ds with
  | nil => exact q.elim
  | cons d ds =>
    cases ds with
    | nil =>
      obtain ⟨u, rfl, r⟩ := rs.one_inv
      exact h u H Q (v c σ ρ H n P PX d u Q I r q hg hx)
    | cons _ _ => exact q.elim
theorem RepK.len {K : PySem.W.Frag} {S : Addr → Prop} {H : Hp} : ∀ {xs : List (Key × D)} {vs : List (Key × V)}, RepK K S H xs vs → vs.length = xs.length
  | [], _, h => by
    have e : _ = [] := h
    rw [e]
    rfl
  | (k, x) :: xs, _, h => by
    obtain ⟨v, ws, rfl, _, q⟩ := h
    show ws.length + 1 = xs.length + 1
    rw [RepK.len q]
theorem call_lenR : CallR X (.builtin "len") (fun xs H Q => ∃ a kvs, xs = [V.ref a] ∧ Rd H a (.dK kvs) ∧ Q (.int kvs.length) H) := by
  intro pins s σ H xs us Q I r q
  obtain ⟨a, kvs, ex, e, q⟩ := q
  subst ex
  obtain ⟨u, eu, rx⟩ := vals1 r
  subst eu
  cases rx
  exact d_len I e fun t s' I' => ⟨.int kvs.length, H, I', ⟨t, rfl⟩, q⟩
theorem e_len {p pos : Pos} {e : Expr} {g : Env → W D} (hm : X.mg "len" = none) (h : E G X Wx e g) (hg : Gl X "len" := by rfl) (he : starEach [e] X.env = (false, eval e X.env) :: starEach [] X.env := by rfl) :
    E G X Wx (.Call (.Name "len" p) [e] [] pos) (fun ρ => bnd (bnd (g ρ) fun x => bnd (ret []) fun xs => ret (x :: xs)) (one lenD)) :=
  e_callB hm PySem.boot_len (call_len.or call_lenR) (va_one (r := fun x H Q => (∃ n : Nat, LenV X.K x H n ∧ Q (.int n) H) ∨ ∃ d kvs, x = .ref d ∧ Rd H d (.dK kvs) ∧ Q (.int kvs.length) H) (by
    intro c σ ρ H n P PX d v Q I r q hg hx
    cases d with
    | lst xs => obtain ⟨a, vs, rfl, r1, _, q1⟩ := r; exact .inl ⟨xs.length, .inl ⟨vs, r1.sq, q1.len.symm⟩, hg.at (d := .int xs.length) q I rfl⟩
    | tup xs => obtain ⟨a, vs, rfl, r1, _, q1⟩ := r; exact .inl ⟨xs.length, .inr ⟨vs, r1.sq, q1.len.symm⟩, hg.at (d := .int xs.length) q I rfl⟩
    | str x => obtain ⟨rfl, z⟩ := r; exact .inl ⟨x.length, ⟨z, rfl⟩, hg.at (d := .int x.length) q I rfl⟩
    | dic kvs => obtain ⟨a, kws, rfl, r1, q1⟩ := r; exact .inr ⟨a, kws, rfl, r1.2, by rw [q1.len]; exact hg.at (d := .int kvs.length) q I rfl⟩
    | _ => exact q.elim) fun x H Q h => h.elim (fun ⟨n, h1, h2⟩ => .inl ⟨x, n, rfl, h1, h2⟩) fun ⟨d, kvs, h1, h2, h3⟩ => .inr ⟨d, kvs, by rw [h1], h2, h3⟩) (a_cons h a_nil he) hg (by decide) (by decide) he (by rfl)
end
end PL

/-! The layer: statements, targets, walks, loops, comprehensions. -/
namespace PL
open PySem PySem.Spec L2

/-! ### targets -/
inductive Tg where
  | nm (i : Nat) | tp (ts : List Tg)
mutual
def setT : Tg → D → Env → W Env
  | .nm i, x, ρ => ret (ρ.set i (.d x))
  | .tp ts, .tup xs, ρ => grd (xs.length = ts.length) (setTs ts xs ρ)
  | .tp ts, .lst xs, ρ => grd (xs.length = ts.length) (setTs ts xs ρ)
  | .tp _, _, _ => stuck
def setTs : List Tg → List D → Env → W Env
  | [], [], ρ => ret ρ
  | t :: ts, x :: xs, ρ => bnd (setT t x ρ) fun ρ' => setTs ts xs ρ'
  | _, _, _ => stuck
end
mutual
def Tg.ix : Tg → List Nat
  | .nm i => [i]
  | .tp ts => Tg.ixs ts
def Tg.ixs : List Tg → List Nat
  | [] => []
  | t :: ts => t.ix ++ Tg.ixs ts
end
/-- only the slots vs may differ -/
def But (vs : List Nat) (σ σ' : L2.St) : Prop := σ'.length = σ.length ∧ ∀ i, i ∉ vs → σ'[i]? = σ[i]?
def ButE (vs : List Nat) (ρ ρ' : Env) : Prop := ρ'.length = ρ.length ∧ ∀ i, i ∉ vs → ρ'[i]? = ρ[i]?

section
variable {G : PenK} {X : Cx} {Wx : WX}

mutual
def gT (K : PySem.W.Frag) : Tg → TG
  | .nm i => gName i
  | .tp ts => fun v σ H Q => gTup K ts.length (gTs K ts) v σ H Q ∨ gUnl K ts.length (gTs K ts) v σ H Q
def gTs (K : PySem.W.Frag) : List Tg → TGs
  | [] => gNil
  | t :: ts => gCons (gT K t) (gTs K ts)
end
def PTg (X : Cx) (tg : Expr) (t : Tg) : Prop := PG X tg (gT X.K t)
def PTgs (X : Cx) (tgs : List Expr) (ts : List Tg) : Prop := PGs X tgs (gTs X.K ts)
theorem But.set {σ : L2.St} {i : Nat} {o : Option V} : But [i] σ (σ.set i o) := ⟨by rw [List.length_set], fun j h => by rw [List.getElem?_set_ne (fun e => h (by rw [e]; exact List.mem_singleton.mpr rfl))]⟩
theorem ButE.set {ρ : Env} {i : Nat} {o : SV} : ButE [i] ρ (ρ.set i o) := ⟨by rw [List.length_set], fun j h => by rw [List.getElem?_set_ne (fun e => h (by rw [e]; exact List.mem_singleton.mpr rfl))]⟩
theorem But.app {σ σ1 σ2 : L2.St} {vs ws : List Nat} (a : But vs σ σ1) (b : But ws σ1 σ2) : But (vs ++ ws) σ σ2 :=
  ⟨b.1.trans a.1, fun i h => (b.2 i fun z => h (List.mem_append_right _ z)).trans (a.2 i fun z => h (List.mem_append_left _ z))⟩
theorem ButE.app {σ σ1 σ2 : Env} {vs ws : List Nat} (a : ButE vs σ σ1) (b : ButE ws σ1 σ2) : ButE (vs ++ ws) σ σ2 :=
  ⟨b.1.trans a.1, fun i h => (b.2 i fun z => h (List.mem_append_right _ z)).trans (a.2 i fun z => h (List.mem_append_left _ z))⟩
mutual
theorem gT_ok {K : PySem.W.Frag} : ∀ (t : Tg) {c : C} {σ : L2.St} {ρ : Env} {H : Hp} {n : Nt} {P : Env → Nt → Prop} {PX : Exc → Nt → Prop} {d : D} {v : V} {Q : L2.St → Hp → Prop}, SI G K c σ H ρ n → Rep K c.S H d v → setT t d ρ n P PX →
    (∀ ρ' k σ', P ρ' k → SI G K c σ' H ρ' k → But t.ix σ σ' → ButE t.ix ρ ρ' → Q σ' H) → gT K t v σ H Q
  | .nm i, c, σ, ρ, H, n, P, PX, d, v, Q, I, r, q, h => h _ n _ q (I.set r) But.set ButE.set
  | .tp ts, c, σ, ρ, H, n, P, PX, d, v, Q, I, r, q, h => by
    cases d with
    | tup xs =>
      obtain ⟨a, vs, rfl, r1, z, r2⟩ := r
      exact .inl ⟨a, vs, rfl, r1.sq, r2.len.trans q.1, gTs_ok ts I r2 q.2 h⟩
    | lst xs =>
      obtain ⟨a, vs, rfl, r1, z, r2⟩ := r
      exact .inr ⟨a, vs, rfl, r1.sq, r2.len.trans q.1, gTs_ok ts I r2 q.2 h⟩
    | _ => exact q.elim
theorem gTs_ok {K : PySem.W.Frag} : ∀ (ts : List Tg) {c : C} {σ : L2.St} {ρ : Env} {H : Hp} {n : Nt} {P : Env → Nt → Prop} {PX : Exc → Nt → Prop} {ds : List D} {vs : List V} {Q : L2.St → Hp → Prop}, SI G K c σ H ρ n → Reps K c.S H ds vs → setTs ts ds ρ n P PX →
    (∀ ρ' k σ', P ρ' k → SI G K c σ' H ρ' k → But (Tg.ixs ts) σ σ' → ButE (Tg.ixs ts) ρ ρ' → Q σ' H) → gTs K ts vs σ H Q
  | [], c, σ, ρ, H, n, P, PX, ds, vs, Q, I, r, q, h => by
    cases ds with
    | nil =>
      have e : vs = [] := r
      exact ⟨e, h ρ n σ q I ⟨rfl, fun _ _ => rfl⟩ ⟨rfl, fun _ _ => rfl⟩⟩
    | cons _ _ => exact q.elim
  | t :: ts, c, σ, ρ, H, n, P, PX, ds, vs, Q, I, r, q, h => by
    cases ds with
    | nil => exact q.elim
    | cons d ds =>
      obtain ⟨v, ws, rfl, r1, r2⟩ := r
      exact ⟨v, ws, rfl, gT_ok t I r1 q fun ρ1 k1 σ1 q1 I1 b1 e1 => gTs_ok ts I1 r2 q1 fun ρ2 k2 σ2 q2 I2 b2 e2 => h ρ2 k2 σ2 q2 I2 (b1.app b2) (e1.app e2)⟩
end
theorem g_nm {x : Str} {pos : Pos} (i : Nat) (hN : X.N.Nodup) (hi : X.N[i]? = some x := by rfl) (hx : Loc X.env.scope x := by first | exact Or.inl rfl | exact Or.inr rfl) (hf : X.fn x = true ∨ X.env.scope.names.lookup x = some .local := by first | exact .inl rfl | exact .inr rfl) : PTg X (.Name x pos) (.nm i) := pg_name hN hi hx hf
theorem gs_nil : PTgs X [] [] := pgs_nil
theorem gs_cons {tg : Expr} {tgs : List Expr} {t : Tg} {ts : List Tg} (h1 : PTg X tg t) (h2 : PTgs X tgs ts)
    (ht : (assignEach (tg :: tgs) X.env).map (·.2) = assign tg X.env :: (assignEach tgs X.env).map (·.2) := by rfl) : PTgs X (tg :: tgs) (t :: ts) := pgs_cons h1 h2 ht
theorem g_tp {es : List Expr} {k : Nat} {pos : Pos} {ts : List Tg} (hc : X.calm = true) (h : PTgs X es ts) (hn : (assignEach es X.env).length = ts.length := by rfl) (hst : (assignEach es X.env).findIdx? (·.1) = none := by rfl) :
    PTg X (.Tuple es k pos) (.tp ts) :=
  ⟨fun pins sh σ H v u Q I r q => q.elim ((pg_tup hc h hn hst).run pins sh σ H v u Q I r) ((pg_unl hc h hn hst).run pins sh σ H v u Q I r)⟩

/-! ### statements -/
theorem SI.bk {c : C} {σ : L2.St} {ρ : Env} {H : Hp} {n : Nt} (I : SI G X.K c σ H ρ n) : SI G X.K (c.to c.S) σ H ρ n := I
theorem ss_nil : Ss G X Wx [] (fun ρ => ret (.nx ρ)) := weakSs pss_nil fun Dn σ H ⟨c, ρ, n, P, PX, I, q, hg, hx⟩ => hg.1 ρ n σ c.S H q .refl I
def andThen (m : W Out) (k : Env → W Out) : W Out := bnd m fun o => match o with
  | .nx ρ => k ρ
  | .rt d ρ => ret (.rt d ρ)
  | .bk ρ => ret (.bk ρ)
  | .ct ρ => ret (.ct ρ)
theorem GlS.seq {c : C} {H : Hp} {P : Out → Nt → Prop} {PX : Exc → Nt → Prop} {Dn : Ends} {f : Env → W Out} {N : L2.St → Hp → Prop} (hg : GlS G X c H P Dn)
    (hN : ∀ ρ' k σ' S' H', f ρ' k P PX → Grow c.S S' H H' → SI G X.K (c.to S') σ' H' ρ' k → N σ' H') :
    GlS G X c H (fun o k => (match o with | .nx ρ => f ρ | .rt d ρ => ret (.rt d ρ) | .bk ρ => ret (.bk ρ) | .ct ρ => ret (.ct ρ) : W Out) k P PX) { Dn with nx := N } :=
  ⟨fun ρ' k σ' S' H' p g I => hN ρ' k σ' S' H' p g I, fun d k v σ' ρ' S' H' p g I r => hg.2.1 d k v σ' ρ' S' H' p g I r, fun ρ' k σ' S' H' p g I => hg.2.2.1 ρ' k σ' S' H' p g I, fun ρ' k σ' S' H' p g I => hg.2.2.2 ρ' k σ' S' H' p g I⟩
theorem ss_cons {s : Stmt} {rest : List Stmt} {g f : Env → W Out} (h : St1 G X Wx s g) (hr : Ss G X Wx rest f) : Ss G X Wx (s :: rest) (fun ρ => andThen (g ρ) f) :=
  weakSs (pss_cons h hr) fun Dn σ H ⟨c, ρ, n, P, PX, I, q, hg, hx⟩ => ⟨c, ρ, n, _, PX, I, q, hg.seq fun ρ' k σ' S' H' p g I' => ⟨c.to S', ρ', k, P, PX, I', p, hg.grow g, hx.grow g⟩, hx⟩
theorem ss_one {s : Stmt} {g : Env → W Out} (h : St1 G X Wx s g) : Ss G X Wx [s] g := pss_one h
/-- all that is one's own is given up -/
theorem ss_free {s : List Stmt} {g : Env → W Out} (h : Ss G X Wx s g) : Ss G X Wx s (fun ρ => g (bor ρ)) :=
  weakSs h fun Dn σ H ⟨c, ρ, n, P, PX, I, q, hg, hx⟩ => by
    obtain ⟨I2, g2⟩ := I.lend
    exact ⟨_, bor ρ, n, P, PX, I2, q, hg.grow g2, hx.grow g2⟩
/-- slot i is given up -/
def frz (i : Nat) (ρ : Env) : Env := match ρ[i]? with
  | some s => ρ.set i s.bor
  | none => ρ
theorem s_pass {pos : Pos} : St1 G X Wx (.Pass pos) (fun ρ => ret (.nx ρ)) := weakS ps_pass fun Dn σ H ⟨c, ρ, n, P, PX, I, q, hg, hx⟩ => hg.1 ρ n σ c.S H q .refl I
theorem s_brk {pos : Pos} : St1 G X Wx (.Break pos) (fun ρ => ret (.bk ρ)) := weakS ps_break fun Dn σ H ⟨c, ρ, n, P, PX, I, q, hg, hx⟩ => hg.2.2.1 ρ n σ c.S H q .refl I
theorem s_cnt {pos : Pos} : St1 G X Wx (.Continue pos) (fun ρ => ret (.ct ρ)) := weakS ps_continue fun Dn σ H ⟨c, ρ, n, P, PX, I, q, hg, hx⟩ => hg.2.2.2 ρ n σ c.S H q .refl I
/-- return e: all is lent to e -/
theorem s_ret {e : Expr} {pos : Pos} {g : Env → W D} (h : E G X Wx e g) : St1 G X Wx (.Return (some e) pos) (fun ρ => bnd (g (bor ρ)) fun d => ret (.rt d (bor ρ))) :=
  weakS (ps_ret h) fun Dn σ H ⟨c, ρ, n, P, PX, I, q, hg, hx⟩ => by
    obtain ⟨I2, g2⟩ := I.lend
    exact tE.bnd I2 q (hx.grow g2).x fun d k v S' H' p g I' hx' r => hg.2.1 d k v σ _ S' H' p (g2.trans g) I' r
theorem s_retN {pos : Pos} : St1 G X Wx (.Return none pos) (fun ρ => ret (.rt .non ρ)) := weakS ps_retN fun Dn σ H ⟨c, ρ, n, P, PX, I, q, hg, hx⟩ => hg.2.1 .non n .non σ ρ c.S H q .refl I rfl
/-- return e, a scalar: what is one's own stays so -/
theorem s_retS {e : Expr} {pos : Pos} {g : Env → W D} (h : E G X Wx e g) : St1 G X Wx (.Return (some e) pos) (fun ρ => bnd (g (bor ρ)) fun d => grd (d.sc = true) (ret (.rt d ρ))) :=
  weakS (ps_ret h) fun Dn σ H ⟨c, ρ, n, P, PX, I, q, hg, hx⟩ => by
    obtain ⟨I2, g2⟩ := I.lend
    refine tE.bnd I2 q (hx.grow g2).x fun d k v S' H' ⟨z, p⟩ g I' hx' r => ?_
    obtain ⟨I3, g3⟩ := I.back g I'
    have z' : d.sc = true := z
    exact hg.2.1 d k v σ _ _ H' p g3 I3 (by cases d <;> first | exact r | cases z')
theorem s_asg {tg e : Expr} {pos : Pos} {t : Tg} {g : Env → W D} (h : E G X Wx e g) (ht : PTg X tg t) (h1 : (assignEach [tg] X.env).map (·.2) = [assign tg X.env] := by rfl) (hs : swapsWithSole [tg] e pos.line X.env = pure false := by rfl) (hw : swappedStores [tg] e X.env = pure none := by rfl) :
    St1 G X Wx (.Assign [tg] e pos) (fun ρ => bnd (g ρ) fun d => bnd (setT t d ρ) fun ρ' => ret (.nx ρ')) := by
  exact weakS (ps_asg h ht hs hw h1) fun Dn σ H ⟨c, ρ, n, P, PX, I, q, hg, hx⟩ => tE.bnd I q hx.x fun d k v S' H' p g I' hx' r => gT_ok t (P := fun ρ' k => P (.nx ρ') k) I' r p fun ρ' k2 σ' p2 I2 _ _ => hg.1 ρ' k2 σ' S' H' p2 g I2
def scal (d : D) (m : W α) : W α := grd (d.sc = true) m
/-- name = e, e a scalar: all is lent to e -/
theorem s_asgB {tg e : Expr} {pos : Pos} {t : Tg} {g : Env → W D} (h : E G X Wx e g) (ht : PTg X tg t) (h1 : (assignEach [tg] X.env).map (·.2) = [assign tg X.env] := by rfl) (hs : swapsWithSole [tg] e pos.line X.env = pure false := by rfl) (hw : swappedStores [tg] e X.env = pure none := by rfl) :
    St1 G X Wx (.Assign [tg] e pos) (fun ρ => bnd (g (bor ρ)) fun d => scal d (bnd (setT t d ρ) fun ρ' => ret (.nx ρ'))) := by
  exact weakS (ps_asg h ht hs hw h1) fun Dn σ H ⟨c, ρ, n, P, PX, I, q, hg, hx⟩ => by
    obtain ⟨I2, g2⟩ := I.lend
    refine tE.bnd I2 q (hx.grow g2).x fun d k v S' H' ⟨z, p⟩ g I' hx' r => ?_
    obtain ⟨I3, g3⟩ := I.back g I'
    exact gT_ok t (P := fun ρ' k => P (.nx ρ') k) I3 (Rep.sc z r) p fun ρ' k2 σ' p2 I4 _ _ => hg.1 ρ' k2 σ' _ H' p2 g3 I4
/-- name = a new list of one's own -/
theorem s_own {x : Str} {px pos : Pos} {e : Expr} {g : Env → W (List D)} (i : Nat) (h : EO G X Wx e g) (hN : X.N.Nodup) (hi : X.N[i]? = some x := by rfl) (hx : Loc X.env.scope x := by first | exact Or.inl rfl | exact Or.inr rfl) (hf : X.fn x = true ∨ X.env.scope.names.lookup x = some .local := by first | exact .inl rfl | exact .inr rfl)
    (hs : swapsWithSole [.Name x px] e pos.line X.env = pure false := by rfl) (hw : swappedStores [.Name x px] e X.env = pure none := by rfl) : St1 G X Wx (.Assign [.Name x px] e pos) (fun ρ => bnd (g ρ) fun xs => ret (.nx (ρ.set i (.own xs)))) :=
  weakS (ps_asg h (pg_name hN hi hx hf) hs hw) fun Dn σ H ⟨c, ρ, n, P, PX, I, q, hg, hx⟩ => tO.bnd I q hx.x fun xs k a vs S' H' p g I' hx' e z r f => hg.1 _ k _ S' H' p g (I'.setO e z r f.1 fun j sv _ h1 h2 => f.2 j sv h1 h2)
theorem s_if {t : Expr} {a b : List Stmt} {pos : Pos} {gt : Env → W Bool} {ga gb : Env → W Out} (ht : T G X Wx t gt) (ha : Ss G X Wx a ga) (hb : Ss G X Wx b gb) :
    St1 G X Wx (.If t a b pos) (fun ρ => bnd (gt (bor ρ)) fun x => if x = true then ga ρ else gb ρ) :=
  weakS (ps_if ht ha hb) fun Dn σ H ⟨c, ρ, n, P, PX, I, q, hg, hx⟩ => by
    obtain ⟨I2, g2⟩ := I.lend
    refine tT.bnd I2 q (hx.grow g2).x fun b k S' H' p g I' hx' => ?_
    obtain ⟨I3, g3⟩ := I.back g I'
    cases b with
    | true => exact iteT ⟨_, ρ, k, P, PX, I3, p, hg.grow g3, hx.grow g3⟩
    | false => exact iteF ⟨_, ρ, k, P, PX, I3, p, hg.grow g3, hx.grow g3⟩
theorem s_expr {e : Expr} {pos : Pos} {g : Env → W D} (h : E G X Wx e g) (hs : swapsWith e none pos.line X.env = pure false := by rfl) : St1 G X Wx (.Expr e pos) (fun ρ => bnd (g ρ) fun _ => ret (.nx ρ)) :=
  weakS (ps_expr h hs) fun Dn σ H ⟨c, ρ, n, P, PX, I, q, hg, hx⟩ => tE.bnd I q hx.x fun d k v S' H' p g I' hx' r => hg.1 ρ k σ S' H' p g I'
theorem s_doc {x : Str} {j pos pos'} : St1 G X Wx (.Expr (.Constant (.str x) j pos) pos') (fun ρ => ret (.nx ρ)) := weakS ps_doc fun Dn σ H ⟨c, ρ, n, P, PX, I, q, hg, hx⟩ => hg.1 ρ n σ c.S H q .refl I

/-- a list of one's own is changed -/
theorem SI.mut {c : C} {σ : L2.St} {ρ : Env} {H : Hp} {n : Nt} {i : Nat} {xs ys : List D} {a : Addr} {vs : List V} (I : SI G X.K c σ H ρ n) (e : ρ[i]? = some (.own xs)) (es : slot σ i = some (.ref a)) (z : ys.length ≤ sizeLine) (r : Reps X.K c.S H ys vs) :
    SI G X.K c σ (upd H a (.lst vs)) (ρ.set i (.own ys)) n ∧ Grow c.S c.S H (upd H a (.lst vs)) := by
  obtain ⟨y1, y2, y3⟩ := I.own i _ a e rfl es
  have hl : i < ρ.length := (List.getElem?_eq_some_iff.mp e).1
  have g : Grow c.S c.S H (upd H a (.lst vs)) := ⟨fun _ q => q, fun b q => upd_ne fun z => y1 (z ▸ q)⟩
  have key : ∀ j sv, (ρ.set i (.own ys))[j]? = some sv → (j = i ∧ sv = .own ys) ∨ (i ≠ j ∧ ρ[j]? = some sv) := fun j sv e => by
    by_cases h : i = j
    · subst h
      rw [List.getElem?_set_self hl] at e
      exact .inl ⟨rfl, (Option.some.inj e).symm⟩
    · rw [List.getElem?_set_ne h] at e
      exact .inr ⟨h, e⟩
  refine ⟨⟨by rw [List.length_set, I.len], fun j sv e2 => ?_, fun j sv b e2 ho es2 => ?_, fun j k sv sv' b hn e1 e2 ho ho' es1 es2 => ?_, fun b q => ?_, fun b o e2 hn => ?_, fun p e2 => ?_, I.no, fun q e => ⟨(I.tab q e).1, (I.tab q e).2.grow g (upd_ne fun z => (I.tabN e).2.1 (z ▸ y2))⟩, fun b nd e => ⟨(I.mu b nd e).1.grow g (upd_ne fun z => (by rw [z, y3] at e; cases e)), (I.mu b nd e).2⟩, I.mu0, I.mz⟩, g⟩
  · rcases key j sv e2 with ⟨rfl, rfl⟩ | ⟨hn, h⟩
    · exact ⟨a, vs, es, upd_same, z, Reps.grow g _ _ r⟩
    · exact (I.slots j sv h).grow g fun b eb ho => upd_ne fun q => I.apart i j _ sv a hn e h rfl ho es (q ▸ eb)
  · rcases key j sv e2 with ⟨rfl, rfl⟩ | ⟨hn, h⟩
    · exact I.own j _ b e rfl es2
    · exact I.own j sv b h ho es2
  · rcases key j sv e1 with ⟨rfl, rfl⟩ | ⟨hn1, h1⟩
    · rcases key k sv' e2 with ⟨rfl, rfl⟩ | ⟨hn2, h2⟩
      · exact hn rfl
      · exact I.apart j k _ sv' b hn e h2 rfl ho' es1 es2
    · rcases key k sv' e2 with ⟨rfl, rfl⟩ | ⟨hn2, h2⟩
      · exact I.apart j k sv _ b hn h1 e ho rfl es1 es2
      · exact I.apart j k sv sv' b hn h1 h2 ho ho' es1 es2
  · rw [g.eq b q]; exact I.dom b q
  · have q := I.fr b o e2 hn
    rw [upd_ne fun z => by rw [z, y2] at e2; cases e2]
    exact q
  · obtain ⟨h1, h2, h3, h4, h5⟩ := I.pen p e2
    exact ⟨G.dep h1 (upd_ne fun z => h4 (z ▸ y2)) (upd_ne fun z => h5 (z ▸ y2)), h2, h3, h4, h5⟩
def ownAt (ρ : Env) (i : Nat) (f : List D → W Out) : W Out := match ρ[i]? with
  | some (.own xs) => f xs
  | _ => stuck
theorem ownAt_inv {ρ : Env} {i : Nat} {n : Nt} {f : List D → W Out} {P : Out → Nt → Prop} {PX : Exc → Nt → Prop} (h : ownAt ρ i f n P PX) : ∃ xs, ρ[i]? = some (.own xs) ∧ f xs n P PX := by
  unfold ownAt at h
  cases e : ρ[i]? with
  | none => rw [e] at h; exact h.elim
  | some sv =>
    rw [e] at h
    cases sv with
    | own xs => exact ⟨xs, rfl, h⟩
    | _ => exact h.elim
/-- xs.append(e) -/
theorem s_app {x : Str} {px pa pc pos : Pos} {e : Expr} {g : Env → W D} (i : Nat) (h : E G X Wx e g) (hN : X.N[i]? = some x := by rfl) (hv : Vis X.env.scope x := by first | exact Or.inl rfl | exact Or.inr (Or.inl rfl) | exact Or.inr (Or.inr rfl)) (hd : (x == ("__debug__" : Str)) = false := by decide)
    (hcd : (x == ("__classdict__" : Str)) = false := by decide) (hst : starEach [e] X.env = (false, eval e X.env) :: starEach [] X.env := by rfl)
    (hbase : attributeBase (.Name x px) "append" X.env (eval (.Name x px) X.env) = eval (.Name x px) X.env := by rfl)
    (hfew : ((backTo pc (starEach [e] X.env)).all (fun x => !x.1) && (backToKw pc (keywordEach [] X.env)).all (fun x => x.1.isSome)
      && decide (([e] : List Expr).length + ([] : List Keyword).length + (if ([] : List Keyword).isEmpty then 0 else 1) < 30)) = true := by rfl)
    (hline : (pa.endLine == pc.line) = true := by rfl) (hplain : (backTo pc (starEach [] X.env)).any (·.1) = false := by rfl) (hs : swapsWith (.Call (.Attribute (.Name x px) "append" pa) [e] [] pc) none pos.line X.env = pure false := by rfl) :
    St1 G X Wx (.Expr (.Call (.Attribute (.Name x px) "append" pa) [e] [] pc) pos) (fun ρ => ownAt ρ i fun xs => bnd (g ρ) fun d => grd (xs.length < sizeLine) (ret (.nx (ρ.set i (.own (xs ++ [d])))))) :=
  weakS (ps_expr (pe_bm PySem.F.plainAttrs_list PySem.F.slot_list_append PySem.F.type_list_append mt_append (pe_var hN hv hd hcd) (pa_cons h pa_nil hst) hbase hfew hline hst hplain) hs) fun Dn σ H ⟨c, ρ, n, P, PX, I, q, hg, hx⟩ => by
    obtain ⟨xs, e1, q⟩ := ownAt_inv q
    obtain ⟨a, vs, e2, e3, z, r⟩ := I.slots i _ e1
    refine ⟨.ref a, slot_some e2, .inl ⟨rfl, _, SqL.of e3⟩, tE.bnd I q hx.x fun d k v S' H' ⟨z2, p⟩ g I' hx' r' => ?_⟩
    obtain ⟨a', vs', e4, e5, z3, r2⟩ := I'.slots i _ e1
    rw [e2] at e4
    cases e4
    obtain ⟨I3, g3⟩ := I'.mut e1 e2 (ys := xs ++ [d]) (vs := vs' ++ [v]) (by rw [List.length_append]; exact z2) (Reps.app r2 (Reps.one r'))
    exact ⟨a, vs', v, rfl, rfl, e5, by rw [r2.len]; exact z2, hg.1 _ k σ _ _ p (g.trans g3) I3⟩
theorem s_appB {x : Str} {px pa pc pos : Pos} {e : Expr} {g : Env → W D} (i : Nat) (h : E G X Wx e g) (hN : X.N[i]? = some x := by rfl) (hv : Vis X.env.scope x := by first | exact Or.inl rfl | exact Or.inr (Or.inl rfl) | exact Or.inr (Or.inr rfl)) (hd : (x == ("__debug__" : Str)) = false := by decide)
    (hcd : (x == ("__classdict__" : Str)) = false := by decide) (hst : starEach [e] X.env = (false, eval e X.env) :: starEach [] X.env := by rfl)
    (hbase : attributeBase (.Name x px) "append" X.env (eval (.Name x px) X.env) = eval (.Name x px) X.env := by rfl)
    (hfew : ((backTo pc (starEach [e] X.env)).all (fun x => !x.1) && (backToKw pc (keywordEach [] X.env)).all (fun x => x.1.isSome)
      && decide (([e] : List Expr).length + ([] : List Keyword).length + (if ([] : List Keyword).isEmpty then 0 else 1) < 30)) = true := by rfl)
    (hline : (pa.endLine == pc.line) = true := by rfl) (hplain : (backTo pc (starEach [] X.env)).any (·.1) = false := by rfl) (hs : swapsWith (.Call (.Attribute (.Name x px) "append" pa) [e] [] pc) none pos.line X.env = pure false := by rfl) :
    St1 G X Wx (.Expr (.Call (.Attribute (.Name x px) "append" pa) [e] [] pc) pos) (fun ρ => ownAt ρ i fun xs => bnd (g (bor ρ)) fun d => scal d (grd (xs.length < sizeLine) (ret (.nx (ρ.set i (.own (xs ++ [d]))))))) :=
  weakS (ps_expr (pe_bm PySem.F.plainAttrs_list PySem.F.slot_list_append PySem.F.type_list_append mt_append (pe_var hN hv hd hcd) (pa_cons h pa_nil hst) hbase hfew hline hst hplain) hs) fun Dn σ H ⟨c, ρ, n, P, PX, I, q, hg, hx⟩ => by
    obtain ⟨xs, e1, q⟩ := ownAt_inv q
    obtain ⟨a, vs, e2, e3, z, r⟩ := I.slots i _ e1
    obtain ⟨J, gJ⟩ := I.lend
    refine ⟨.ref a, slot_some e2, .inl ⟨rfl, _, SqL.of e3⟩, tE.bnd J q (hx.grow gJ).x fun d k v S' H' ⟨hsc, z2, p⟩ g J' hx' r' => ?_⟩
    obtain ⟨I', g0⟩ := I.back g J'
    obtain ⟨a', vs', e4, e5, z3, r2⟩ := I'.slots i _ e1
    rw [e2] at e4
    cases e4
    obtain ⟨I3, g3⟩ := I'.mut e1 e2 (ys := xs ++ [d]) (vs := vs' ++ [v]) (by rw [List.length_append]; exact z2) (Reps.app r2 (Reps.one (Rep.sc hsc r')))
    exact ⟨a, vs', v, rfl, rfl, e5, by rw [r2.len]; exact z2, hg.1 _ k σ _ _ p (g0.trans g3) I3⟩
end
end PL

/-! The layer: walks, loops, comprehensions. -/
namespace PL
open PySem PySem.Spec L2
section
variable {G : PenK} {X : Cx} {Wx : WX}

/-- from S0, H0 on the walk J gives the items xs -/
def Walks (G : PenK) (K : PySem.W.Frag) (J : It) (S0 : Addr → Prop) (H0 : Hp) (xs : List D) : Prop :=
  ∀ (c : C) (ρ : Env) (σ : L2.St) (H : Hp) (n : Nt) (i : Nat), Grow S0 c.S H0 H → SI G K c σ H ρ n →
    (i < xs.length → J.go i H ∧ ∀ v H', J.yld i H v H' → ∃ S' x, Grow c.S S' H H' ∧ SI G K (c.to S') σ H' ρ n ∧ xs[i]? = some x ∧ Rep K S' H' x v) ∧ (xs.length ≤ i → J.stop i H)
def tI (G : PenK) (X : Cx) (Wx : WX) (g : Env → W (List D)) : TI := fun σ H R => ∃ c ρ n P PX, SI G X.K c σ H ρ n ∧ g ρ n P PX ∧
  (∀ xs k S' H' J, P xs k → Grow c.S S' H H' → SI G X.K (c.to S') σ H' ρ k → Walks G X.K J S' H' xs → R J H') ∧ OKx G X Wx c σ ρ H PX
def Wk (G : PenK) (X : Cx) (Wx : WX) (tg e : Expr) (g : Env → W (List D)) : Prop := PI X tg e (tI G X Wx g)
theorem weakI {tg e : Expr} {t t' : TI} (h : PI X tg e t) (f : ∀ σ H R, t' σ H R → t σ H R) : PI X tg e t' := ⟨fun pins s σ H R I q => h.run pins s σ H R I (f σ H R q)⟩

theorem walks_list {K : PySem.W.Frag} {S : Addr → Prop} {H : Hp} {a : Addr} {xs : List D} {vs : List V} (h : RdL S H a vs) (r : Reps K S H xs vs) : Walks G K (Itl K a) S H xs := fun c ρ σ H2 n i g I => by
  have h2 := h.grow g
  have r2 := Reps.grow g _ _ r
  refine ⟨fun hi => ?_, fun hi => ⟨vs, h2.sq, by rw [r2.len]; exact hi⟩⟩
  have hx : xs[i]? = some xs[i] := List.getElem?_eq_getElem hi
  obtain ⟨v, e1, e2⟩ := Reps.at r2 hx
  exact ⟨⟨vs, v, h2.sq, e1⟩, fun u H' ⟨e, y⟩ => ⟨c.S, xs[i], e ▸ .refl, e ▸ I, hx, by
    have := y vs h2.sq
    rw [e1] at this
    cases this
    rw [e]
    exact e2⟩⟩
theorem walks_tup {K : PySem.W.Frag} {S : Addr → Prop} {H : Hp} {a : Addr} {xs : List D} {vs : List V} (h : RdT K S H a vs) (r : Reps K S H xs vs) : Walks G K (Itt K a) S H xs := fun c ρ σ H2 n i g I => by
  have h2 := h.grow g
  have r2 := Reps.grow g _ _ r
  refine ⟨fun hi => ?_, fun hi => ⟨vs, h2.sq, by rw [r2.len]; exact hi⟩⟩
  have hx : xs[i]? = some xs[i] := List.getElem?_eq_getElem hi
  obtain ⟨v, e1, e2⟩ := Reps.at r2 hx
  exact ⟨⟨vs, v, h2.sq, e1⟩, fun u H' ⟨e, y⟩ => ⟨c.S, xs[i], e ▸ .refl, e ▸ I, hx, by
    have := y vs h2.sq
    rw [e1] at this
    cases this
    rw [e]
    exact e2⟩⟩
/-- a list or a tuple -/
theorem pi_seq {tg e : Expr} {te : TE} (he : PE X e te) : PI X tg e (fun σ H R => te σ H fun x H1 => ∃ a xs, x = .ref a ∧ ((SqL X.K H1 a xs ∧ R (Itl X.K a) H1) ∨ (SqT X.K H1 a xs ∧ R (Itt X.K a) H1))) :=
  ⟨fun pins s σ H R I h => thn (he.run pins s σ H _ I h) fun v s1 ⟨x, H1, I1, r1, a, xs, e, q⟩ => by
    subst e
    cases r1
    have fp : ∀ b ∈ [s1.heap.objs.size], FpOk X pins H1 b := fun b hb => by
      rw [List.mem_singleton.mp hb]
      exact I1.fpOk (Nat.le_refl _) (I1.hok.fresh (Nat.le_refl _))
    rcases q with ⟨h1, q⟩ | ⟨h1, q⟩
    · obtain ⟨its, _, p, _⟩ := I1.list h1
      exact PySem.wpAny_pyIter_list p.isList ⟨_, _, _, _, H1, rfl, I1.kept (t' := s1.toks) (fun b o e => Heap.get?_push_of_some _ e), turn_list a _, ⟨_, Heap.get?_push_size _ rfl, rfl, rfl⟩, fp, q⟩
    · obtain ⟨its, _, p, _⟩ := I1.tuple h1
      exact PySem.wpAny_pyIter_tuple (show s1.heap.IsTuple a its.toArray from p) ⟨_, _, _, _, H1, rfl, I1.kept (t' := s1.toks) (fun b o e => Heap.get?_push_of_some _ e), turn_tuple a _, ⟨_, Heap.get?_push_size _ rfl, rfl, rfl⟩, fp, q⟩⟩
theorem w_seq {tg e : Expr} {g : Env → W D} (h : E G X Wx e g) : Wk G X Wx tg e (fun ρ => bnd (g ρ) items) :=
  weakI (pi_seq h) fun σ H R ⟨c, ρ, n, P, PX, I, q, hg, hx⟩ => tE.bnd I q hx fun d k v S' H' p g I' hx' r => by
    cases d with
    | lst xs =>
      obtain ⟨a, vs, rfl, r1, z, q1⟩ := r
      exact ⟨a, vs, rfl, .inl ⟨r1.sq, hg xs k S' H' _ p g I' (walks_list r1 q1)⟩⟩
    | tup xs =>
      obtain ⟨a, vs, rfl, r1, z, q1⟩ := r
      exact ⟨a, vs, rfl, .inr ⟨r1.sq, hg xs k S' H' _ p g I' (walks_tup r1 q1)⟩⟩
    | _ => exact p.elim
/-- the ints lo, lo + 1, .. -/
def rng (lo : Int) (n : Nat) : List D := (List.range n).map fun i => .int (lo + (i : Nat))
def inR (i : Int) : Prop := -(2 ^ 62) ≤ i ∧ i < 2 ^ 62
def rng1 : D → W (List D)
  | .int j => grd (inR j) (ret (rng 0 j.toNat))
  | _ => stuck
def rng2 : D → D → W (List D)
  | .int i, .int j => grd (inR i ∧ inR j) (ret (rng i (j - i).toNat))
  | _, _ => stuck
theorem rng_len (lo : Int) (n : Nat) : (rng lo n).length = n := by unfold rng; rw [List.length_map, List.length_range]
theorem rng_get {lo : Int} {n i : Nat} (h : i < n) : (rng lo n)[i]? = some (.int (lo + (i : Nat))) := by
  unfold rng
  rw [List.getElem?_map, List.getElem?_range h]
  rfl
theorem walks_rng {K : PySem.W.Frag} {S : Addr → Prop} {H : Hp} {lo : Int} {n : Nat} : Walks G K (Itr lo n) S H (rng lo n) := fun c ρ σ H2 k i g I => by
  rw [rng_len]
  exact ⟨fun hi => ⟨hi, fun v H' ⟨e1, e2⟩ => ⟨c.S, _, e1 ▸ .refl, e1 ▸ I, rng_get hi, e2⟩⟩, fun hi => hi⟩
theorem w_rng1 {tg e : Expr} {p pos : Pos} {g : Env → W D} (hm : X.mg "range" = none) (h : E G X Wx e g) (hg : Gl X "range" := by rfl) (hs : starEach [e] X.env = [(false, eval e X.env)] := by rfl) : Wk G X Wx tg (.Call (.Name "range" p) [e] [] pos) (fun ρ => bnd (g ρ) rng1) :=
  weakI (pi_range1 hg hm (a_cons h a_nil hs) hs) fun σ H R ⟨c, ρ, n, P, PX, I, q, hg, hx⟩ => tAr.bnd (f := fun ds => match ds with | [d] => rng1 d | _ => stuck) I q hx fun ds k vs S' H' p g I' hx' r => by
    cases ds with
    | nil => exact p.elim
    | cons d ds =>
      cases ds with
      | cons _ _ => exact p.elim
      | nil =>
        obtain ⟨v, rfl, r1⟩ := r.one_inv
        cases d with
        | int j => obtain rfl : v = V.int j := r1; exact ⟨j, rfl, p.1.1, p.1.2, hg _ k S' H' _ p.2 g I' walks_rng⟩
        | _ => exact p.elim
theorem w_rng2 {tg a b : Expr} {p pos : Pos} {ga gb : Env → W D} (hm : X.mg "range" = none) (ha : E G X Wx a ga) (hb : E G X Wx b gb) (hg : Gl X "range" := by rfl) (hs : starEach [a, b] X.env = [(false, eval a X.env), (false, eval b X.env)] := by rfl) (hs2 : starEach [b] X.env = [(false, eval b X.env)] := by rfl) :
    Wk G X Wx tg (.Call (.Name "range" p) [a, b] [] pos) (fun ρ => bnd (ga ρ) fun x => bnd (gb ρ) fun y => rng2 x y) :=
  weakI (pi_range2 hg hm (a_cons ha (a_cons hb a_nil hs2) (by rw [hs, hs2])) hs hs2) fun σ H R ⟨c, ρ, n, P, PX, I, q, hg, hx⟩ => tAr.bnd (f := fun ds => match ds with | [x, y] => rng2 x y | _ => stuck) I q hx fun ds k vs S' H' p g I' hx' r => by
    cases ds with
    | nil => exact p.elim
    | cons d ds =>
      cases ds with
      | nil => exact p.elim
      | cons e ds =>
        cases ds with
        | cons _ _ => exact p.elim
        | nil =>
          obtain ⟨v, w, rfl, r1, r2⟩ := r.two_inv
          cases d with
          | int i =>
            cases e with
            | int j => cases r1; cases r2; exact ⟨i, j, rfl, ⟨p.1.1.1, p.1.1.2, p.1.2.1, p.1.2.2⟩, hg _ k S' H' _ p.2 g I' walks_rng⟩
            | _ => exact p.elim
          | _ => exact p.elim
/-- the signs of a text -/
def signs : D → W (List D)
  | .str x => ret (x.cps.toList.map fun k => .str ⟨#[k]⟩)
  | _ => stuck
theorem w_str {tg e : Expr} {g : Env → W D} (h : E G X Wx e g) : Wk G X Wx tg e (fun ρ => bnd (g ρ) signs) :=
  weakI (pi_str h) fun σ H R ⟨c, ρ, n, P, PX, I, q, hg, hx⟩ => tE.bnd I q hx fun d k v S' H' p g I' hx' r => by
    cases d with
    | str x =>
      obtain ⟨rfl, z⟩ := r
      refine ⟨x, rfl, hg _ k S' H' _ p g I' fun c2 ρ2 σ2 H2 n2 i g2 I2 => ?_⟩
      rw [List.length_map, Array.length_toList]
      refine ⟨fun hi => ⟨hi, fun v H3 ⟨e1, w, e2, e3⟩ => ⟨c2.S, .str ⟨#[w]⟩, e1 ▸ .refl, e1 ▸ I2, ?_, e3, by rw [sizeLine_eq]; show 1 ≤ 16777216; decide⟩⟩, fun hi => hi⟩
      rw [List.getElem?_map, Array.getElem?_toList, e2]
      rfl
    | _ => exact p.elim

/-! ### for -/
def forW (f : D → Env → W Out) : List D → Env → W Out
  | [], ρ => ret (.nx ρ)
  | x :: xs, ρ => bnd (f x ρ) fun o => match o with
    | .nx ρ' => forW f xs ρ'
    | .ct ρ' => forW f xs ρ'
    | .bk ρ' => ret (.nx ρ')
    | .rt d ρ' => ret (.rt d ρ')
theorem s_for {tg it : Expr} {body : List Stmt} {pos : Pos} {t : Tg} {g : Env → W (List D)} {gb : Env → W Out} (hp : PassesOwn (model X.prog X.w) X.A X.env X.xe) (hc : X.calm = true) (hi : Wk G X Wx tg it g) (ht : PTg X tg t) (hb : Ss G X Wx body gb)
    (hs : ∀ x, foldedSetIterable it X.env x = pure x := by intro _; rfl) : St1 G X Wx (.For tg it body [] pos) (fun ρ => bnd (g ρ) fun xs => forW (fun x ρ => bnd (setT t x ρ) gb) xs ρ) :=
  weakS (ps_for hp hc hi ht hb hs) fun Dn σ H ⟨c, ρ, n, P, PX, I, q, hg, hx⟩ => by
    refine ⟨c, ρ, n, fun xs k => forW (fun x ρ => bnd (setT t x ρ) gb) xs ρ k P PX, PX, I, q, fun xs k S' H' J p g I' wk => ?_, hx.x⟩
    refine ⟨fun i m σ2 H2 => m = xs.length - i ∧ i ≤ xs.length ∧ ∃ S2 ρ2 k2, Grow S' S2 H' H2 ∧ SI G X.K (c.to S2) σ2 H2 ρ2 k2 ∧ forW (fun x ρ => bnd (setT t x ρ) gb) (xs.drop i) ρ2 k2 P PX, ⟨_, rfl, Nat.zero_le _, S', ρ, k, .refl, I', p⟩, ?_⟩
    rintro i m σ2 H2 ⟨rfl, hi, S2, ρ2, k2, g2, I2, p2⟩
    have gg : Grow c.S S2 H H2 := g.trans g2
    obtain ⟨w1, w2⟩ := wk (c.to S2) ρ2 σ2 H2 k2 i g2 I2
    by_cases hlt : i < xs.length
    · obtain ⟨go, yl⟩ := w1 hlt
      have gb' : ∀ (ρ' : Env) (k' : Nt) (σ' : L2.St) (S'' : Addr → Prop) (H'' : Hp), forW (fun x ρ => bnd (setT t x ρ) gb) (xs.drop (i + 1)) ρ' k' P PX → Grow S2 S'' H2 H'' → SI G X.K (c.to S'') σ' H'' ρ' k' →
          ∃ S3 ρ3 k3, Grow S' S3 H' H'' ∧ SI G X.K (c.to S3) σ' H'' ρ3 k3 ∧ forW (fun x ρ => bnd (setT t x ρ) gb) (xs.drop (i + 1)) ρ3 k3 P PX := fun ρ' k' σ' S'' H'' p' g' I'' => ⟨S'', ρ', k', g2.trans g', I'', p'⟩
      refine .inr ⟨go, fun σ' H'' => ∃ S3 ρ3 k3, Grow S' S3 H' H'' ∧ SI G X.K (c.to S3) σ' H'' ρ3 k3 ∧ forW (fun x ρ => bnd (setT t x ρ) gb) (xs.drop (i + 1)) ρ3 k3 P PX, fun σ' H'' q => ⟨xs.length - (i + 1), by omega, rfl, hlt, q⟩, fun v H3 y => ?_⟩
      obtain ⟨S3, x, g3, I3, ex, r⟩ := yl v H3 y
      have ed : xs.drop i = x :: xs.drop (i + 1) := by
        rw [List.drop_eq_getElem_cons hlt]
        rw [List.getElem?_eq_getElem hlt] at ex
        cases ex
        rfl
      rw [ed] at p2
      have hx3 := hx.grow (gg.trans g3)
      refine gT_ok t I3 r p2 fun ρ' k' σ' p3 I4 _ _ => ⟨_, ρ', k', _, PX, I4, p3, ?_, hx3⟩
      have hg3 := hg.grow (gg.trans g3)
      exact ⟨fun ρ5 k5 σ5 S5 H5 p5 g5 I5 => gb' ρ5 k5 σ5 S5 H5 p5 (g3.trans g5) I5, fun d5 k5 v5 σ5 ρ5 S5 H5 p5 g5 I5 r5 => hg3.2.1 d5 k5 v5 σ5 ρ5 S5 H5 p5 g5 I5 r5,
        fun ρ5 k5 σ5 S5 H5 p5 g5 I5 => hg3.1 ρ5 k5 σ5 S5 H5 p5 g5 I5, fun ρ5 k5 σ5 S5 H5 p5 g5 I5 => gb' ρ5 k5 σ5 S5 H5 p5 (g3.trans g5) I5⟩
    · have e : i = xs.length := by omega
      subst e
      rw [List.drop_length] at p2
      exact .inl ⟨w2 (Nat.le_refl _), hg.1 ρ2 k2 σ2 S2 H2 p2 gg I2⟩
/-- slot i is given up ahead of a block -/
theorem SI.frz {K : PySem.W.Frag} {c : C} {σ : L2.St} {ρ : Env} {H : Hp} {n : Nt} (i : Nat) (I : SI G K c σ H ρ n) : ∃ S', SI G K (c.to S') σ H (PL.frz i ρ) n ∧ Grow c.S S' H H := by
  cases e : ρ[i]? with
  | none => exact ⟨c.S, by unfold PL.frz; rw [e]; exact I, .refl⟩
  | some sv =>
    have ef : PL.frz i ρ = ρ.set i sv.bor := by unfold PL.frz; rw [e]
    rw [ef]
    by_cases ho : sv.isOwn = true
    · obtain ⟨a, es⟩ : ∃ a, slot σ i = some (.ref a) := by
        have q := I.slots i sv e
        cases sv with
        | own xs => obtain ⟨a, _, h, _⟩ := q; exact ⟨a, h⟩
        | ownK xs => obtain ⟨a, _, h, _⟩ := q; exact ⟨a, h⟩
        | _ => cases ho
      have hl : i < ρ.length := (List.getElem?_eq_some_iff.mp e).1
      have g : Grow c.S (fun b => c.S b ∨ b = a) H H := ⟨fun _ q => .inl q, fun _ _ => rfl⟩
      have key : ∀ j s, (ρ.set i sv.bor)[j]? = some s → (j = i ∧ s = sv.bor) ∨ (i ≠ j ∧ ρ[j]? = some s) := fun j s e => by
        by_cases h : i = j
        · subst h
          rw [List.getElem?_set_self hl] at e
          exact .inl ⟨rfl, (Option.some.inj e).symm⟩
        · rw [List.getElem?_set_ne h] at e
          exact .inr ⟨h, e⟩
      obtain ⟨y1, y2, y3⟩ := I.own i sv a e ho es
      refine ⟨fun b => c.S b ∨ b = a, ⟨by rw [List.length_set, I.len], fun j s e2 => ?_, fun j s b e2 ho2 es2 => ?_, fun j k s s' b hn e1 e2 h1 h2 es1 es2 => ?_, fun b q => ?_, I.fr, fun p e2 => ?_, fun b q => ⟨fun z => z.elim (I.no b q).1 fun z => (I.no b q).2 (z ▸ y2), (I.no b q).2⟩, fun q e => ⟨(I.tab q e).1, (I.tab q e).2.grow g rfl⟩, fun b nd e => ⟨(I.mu b nd e).1.grow g rfl, fun z => Or.elim z (I.mu b nd e).2.1 fun z => (by rw [z, y3] at e; cases e), (I.mu b nd e).2.2⟩, I.mu0, I.mz⟩, g⟩
      · rcases key j s e2 with ⟨rfl, rfl⟩ | ⟨_, h⟩
        · have q := (I.slots j sv e).grow g fun _ _ _ => rfl
          cases sv with
          | own xs => obtain ⟨b, vs, e1, r, z, q⟩ := q; rw [es] at e1; cases e1; exact ⟨.ref a, es, a, vs, rfl, ⟨.inr rfl, r⟩, z, q⟩
          | ownK xs => obtain ⟨b, vs, e1, r, q⟩ := q; rw [es] at e1; cases e1; exact ⟨.ref a, es, a, vs, rfl, ⟨.inr rfl, .inl r⟩, q⟩
          | _ => cases ho
        · exact (I.slots j s h).grow g fun _ _ _ => rfl
      · rcases key j s e2 with ⟨rfl, rfl⟩ | ⟨hn, h⟩
        · rw [bor_own] at ho2; cases ho2
        · obtain ⟨z1, z2⟩ := I.own j s b h ho2 es2
          exact ⟨fun q => q.elim z1 fun q => I.apart i j sv s a hn e h ho ho2 es (q ▸ es2), z2⟩
      · rcases key j s e1 with ⟨rfl, rfl⟩ | ⟨_, h1'⟩
        · rw [bor_own] at h1; cases h1
        · rcases key k s' e2 with ⟨rfl, rfl⟩ | ⟨_, h2'⟩
          · rw [bor_own] at h2; cases h2
          · exact I.apart j k s s' b hn h1' h2' h1 h2 es1 es2
      · rcases q with q | rfl
        · exact I.dom b q
        · exact I.own_there ⟨i, sv, e, ho, es⟩
      · obtain ⟨h1, h2, h3, h4, h5⟩ := I.pen p e2
        exact ⟨h1, fun q => q.elim h2 fun q => h4 (q ▸ y2), fun q => q.elim h3 fun q => h5 (q ▸ y2), h4, h5⟩
    · have eb : sv.bor = sv := by cases sv <;> first | rfl | exact absurd rfl ho
      have e3 : ρ.set i sv = ρ := by
        apply List.ext_getElem?
        intro j
        by_cases h : i = j
        · subst h
          rw [List.getElem?_set_self (List.getElem?_eq_some_iff.mp e).1, e]
        · rw [List.getElem?_set_ne h]
      rw [eb, e3]
      exact ⟨c.S, I, .refl⟩
theorem ss_frz (i : Nat) {s : List Stmt} {g : Env → W Out} (h : Ss G X Wx s g) : Ss G X Wx s (fun ρ => g (PL.frz i ρ)) :=
  weakSs h fun Dn σ H ⟨c, ρ, n, P, PX, I, q, hg, hx⟩ => by
    obtain ⟨S2, I2, g2⟩ := I.frz i
    exact ⟨_, _, n, P, PX, I2, q, hg.grow g2, hx.grow g2⟩
end
end PL

/-! The layer: comprehensions. -/
namespace PL
open PySem PySem.Spec L2

def wip : List Nat → Env → Env
  | [], ρ => ρ
  | v :: vs, ρ => (wip vs ρ).set v .un
def noOwn (vs : List Nat) (ρ : Env) : Bool := vs.all fun v => match ρ[v]? with
  | some s => !s.isOwn
  | none => true
def quiet {α : Type} (m : W α) : W α := fun n P _ => m n P fun _ _ => False
def compW (t : Tg) (gt : Env → W Bool) (ge : Env → W D) (ρ : Env) : List D → W (List D)
  | [] => ret []
  | x :: xs => bnd (setT t x ρ) fun ρ' => bnd (gt ρ') fun b => if b = true then bnd (ge ρ') fun y => bnd (compW t gt ge ρ xs) fun ys => ret (y :: ys) else compW t gt ge ρ xs
abbrev WF : WX := fun _ _ _ _ => False

theorem wip_get : ∀ (vs : List Nat) (ρ : Env) (i : Nat) (s : SV), (wip vs ρ)[i]? = some s → s = .un ∨ (i ∉ vs ∧ ρ[i]? = some s)
  | [], ρ, i, s, h => .inr ⟨by simp, h⟩
  | v :: vs, ρ, i, s, h => by
    unfold wip at h
    by_cases e : v = i
    · subst e
      by_cases hl : v < (wip vs ρ).length
      · rw [List.getElem?_set_self hl] at h
        exact .inl (Option.some.inj h).symm
      · rw [List.getElem?_eq_none (by rw [List.length_set]; omega)] at h
        cases h
    · rw [List.getElem?_set_ne e] at h
      rcases wip_get vs ρ i s h with q | ⟨q1, q2⟩
      · exact .inl q
      · exact .inr ⟨fun z => (List.mem_cons.mp z).elim (fun z => e z.symm) q1, q2⟩
theorem wip_out : ∀ (vs : List Nat) (ρ : Env) (i : Nat), i ∉ vs → (wip vs ρ)[i]? = ρ[i]?
  | [], _, _, _ => rfl
  | v :: vs, ρ, i, h => by
    unfold wip
    rw [List.getElem?_set_ne fun e => h (by rw [e]; exact List.mem_cons_self), wip_out vs ρ i fun z => h (List.mem_cons_of_mem _ z)]
theorem wip_len : ∀ (vs : List Nat) (ρ : Env), (wip vs ρ).length = ρ.length
  | [], _ => rfl
  | v :: vs, ρ => by unfold wip; rw [List.length_set, wip_len vs ρ]
theorem wipe_out : ∀ (vs : List Nat) (σ : L2.St) (i : Nat), i ∉ vs → (L2.wipe σ vs)[i]? = σ[i]?
  | [], _, _, _ => rfl
  | v :: vs, σ, i, h => by
    unfold L2.wipe
    rw [List.getElem?_set_ne fun e => h (by rw [e]; exact List.mem_cons_self), wipe_out vs σ i fun z => h (List.mem_cons_of_mem _ z)]
theorem wipe_in : ∀ (vs : List Nat) (σ : L2.St) (i : Nat), i ∈ vs → i < σ.length → (L2.wipe σ vs)[i]? = some none
  | [], _, _, h, _ => nomatch h
  | v :: vs, σ, i, h, hl => by
    unfold L2.wipe
    by_cases e : v = i
    · subst e
      rw [List.getElem?_set_self (by rw [L2.wipe_length]; exact hl)]
    · rw [List.getElem?_set_ne e]
      exact wipe_in vs σ i ((List.mem_cons.mp h).resolve_left fun z => e z.symm) hl
/-- the slots that the targets may change are wiped: the rest is the same -/
theorem wipe_but {vs ws : List Nat} {σ σ' : L2.St} (b : But ws (L2.wipe σ vs) σ') (h : ∀ i ∈ ws, i ∈ vs) : L2.wipe σ' vs = L2.wipe σ vs := by
  have hl : σ'.length = σ.length := b.1.trans (L2.wipe_length σ vs)
  apply List.ext_getElem?
  intro i
  by_cases hi : i ∈ vs
  · by_cases hz : i < σ.length
    · rw [wipe_in vs σ' i hi (by omega), wipe_in vs σ i hi hz]
    · rw [List.getElem?_eq_none (by rw [L2.wipe_length]; omega), List.getElem?_eq_none (by rw [L2.wipe_length]; omega)]
  · rw [wipe_out vs σ' i hi, b.2 i fun z => hi (h i z)]

section
variable {G : PenK} {K : PySem.W.Frag} {c : C} {σ : L2.St} {ρ : Env} {H : Hp} {n : Nt}
theorem SI.wipe (vs : List Nat) (I : SI G K c σ H ρ n) : SI G K c (L2.wipe σ vs) H (wip vs ρ) n := by
  have st : ∀ i, i ∉ vs → slot (L2.wipe σ vs) i = slot σ i := fun i h => by unfold slot; rw [wipe_out vs σ i h]
  refine ⟨by rw [wip_len, L2.wipe_length, I.len], fun i sv e => ?_, fun i sv a e ho es => ?_, fun i j sv sv' a hn e e' ho ho' es es' => ?_, I.dom, I.fr, I.pen, I.no, I.tab, I.mu, I.mu0, I.mz⟩
  · rcases wip_get vs ρ i sv e with rfl | ⟨h1, h2⟩
    · trivial
    · rw [st i h1]; exact I.slots i sv h2
  · rcases wip_get vs ρ i sv e with rfl | ⟨h1, h2⟩
    · cases ho
    · exact I.own i sv a h2 ho (st i h1 ▸ es)
  · rcases wip_get vs ρ i sv e with rfl | ⟨h1, h2⟩
    · cases ho
    · rcases wip_get vs ρ j sv' e' with rfl | ⟨h1', h2'⟩
      · cases ho'
      · exact I.apart i j sv sv' a hn h2 h2' ho ho' (st i h1 ▸ es) (st j h1' ▸ es')
/-- within a comprehension's block: the new list at D is kept, and is never among what stays -/
def C.blk (c : C) (D : Addr) (o : HO) : C := { c with H0 := fun a => if a = D then some o else c.H0 a, no := fun a => c.no a ∨ a = D }
theorem SI.blk {D : Addr} {o : HO} (I : SI G K c σ H ρ n) (hD : H D = some o) (h0 : c.H0 D = none) (hS : ¬ c.S D) (hM : n.μ D = none) (ho : ¬ ownS ρ σ D) : SI G K (c.blk D o) σ H ρ n := by
  have up : ∀ a, c.H0 a ≠ none → (c.blk D o).H0 a ≠ none := fun a h => by
    show (if a = D then some o else c.H0 a) ≠ none
    split
    · exact fun z => nomatch z
    · exact h
  refine ⟨I.len, I.slots, fun i sv a e h es => ⟨(I.own i sv a e h es).1, ?_, (I.own i sv a e h es).2.2⟩, I.apart, I.dom, fun a u e hn => ?_, fun p e => ?_, fun a h => ?_, fun q e => ⟨.inl (I.tab q e).1, (I.tab q e).2⟩, fun a nd e => ⟨(I.mu a nd e).1, (I.mu a nd e).2.1, (I.mu a nd e).2.2.1.imp id fun h => (if_neg (show ¬ a = D from fun z => (by rw [z, hM] at e; cases e))).trans h, (I.mu a nd e).2.2.2⟩, fun a h => ⟨(I.mu0 a h).1, up a (I.mu0 a h).2⟩, I.mz⟩
  · show (if a = D then some o else c.H0 a) = none
    rw [if_neg (show ¬ a = D from fun z => ho ⟨i, sv, e, h, by rw [← z]; exact es⟩)]
    exact (I.own i sv a e h es).2.1
  · have e : (if a = D then some o else c.H0 a) = some u := e
    split at e
    · rename_i z; rw [z, hD]; exact e
    · exact I.fr a u e hn
  · obtain ⟨h1, h2, h3, h4, h5⟩ := I.pen p e
    exact ⟨h1, h2, h3, up _ h4, up _ h5⟩
  · rcases h with h | h
    · exact ⟨(I.no a h).1, up a (I.no a h).2⟩
    · rw [h]
      exact ⟨hS, by show (if D = D then some o else c.H0 D) ≠ none; rw [if_pos rfl]; exact fun z => nomatch z⟩
/-- an object beside all that is told is changed or laid -/
theorem SI.put {D : Addr} {o : HO} (I : SI G K c σ H ρ n) (h0 : c.H0 D = none) (hS : ¬ c.S D) (hM : n.μ D = none) (ho : ¬ ownS ρ σ D) : SI G K c σ (upd H D o) ρ n ∧ Grow c.S c.S H (upd H D o) := by
  have g : Grow c.S c.S H (upd H D o) := ⟨fun _ q => q, fun b q => upd_ne (show b ≠ D from fun z => hS (z ▸ q))⟩
  refine ⟨⟨I.len, fun i sv e => (I.slots i sv e).grow g fun b eb h => upd_ne (show b ≠ D from fun z => ho ⟨i, sv, e, h, z ▸ eb⟩), I.own, I.apart, fun b q => by rw [g.eq b q]; exact I.dom b q, fun b u e q => ?_, fun q e => ?_, I.no, fun q e => ⟨(I.tab q e).1, (I.tab q e).2.grow g (upd_ne fun z => (I.tabN e).2.1 (by rw [z]; exact h0))⟩, fun b nd e => ⟨(I.mu b nd e).1.grow g (upd_ne (show b ≠ D from fun z => (by rw [z, hM] at e; cases e))), (I.mu b nd e).2⟩, I.mu0, I.mz⟩, g⟩
  · rw [upd_ne (show b ≠ D from fun z => by rw [z, h0] at e; cases e)]
    exact I.fr b u e q
  · obtain ⟨h1, h2, h3, h4, h5⟩ := I.pen q e
    exact ⟨G.dep h1 (upd_ne (show q.1 ≠ D from fun z => h4 (by rw [z]; exact h0))) (upd_ne (show q.2 ≠ D from fun z => h5 (by rw [z]; exact h0))), h2, h3, h4, h5⟩
/-- back from the block -/
theorem SI.restore {D : Addr} {o : HO} {vs : List Nat} {σ2 : L2.St} {ρ2 : Env} {H' : Hp} {S' : Addr → Prop} {k : Nt} (I : SI G K c σ H ρ n) (h0 : c.H0 D = none) (J : SI G K ((c.blk D o).to S') σ2 H' ρ2 k) (g : Grow c.S S' H H')
    (b : ∀ i, i ∉ vs → σ2[i]? = σ[i]?) (be : ∀ i, i ∉ vs → ρ2[i]? = ρ[i]?) (hn : noOwn vs ρ = true) : SI G K (c.to S') σ H' ρ k ∧ H' D = some o ∧ ¬ S' D ∧ k.μ D = none := by
  have nD : ∀ a, c.H0 a ≠ none → a ≠ D := fun a h e => h (e ▸ h0)
  have H0e : ∀ a, a ≠ D → (c.blk D o).H0 a = c.H0 a := fun a h => if_neg h
  have notIn : ∀ i sv, ρ[i]? = some sv → sv.isOwn = true → i ∉ vs := fun i sv e ho hi => by
    have := List.all_eq_true.mp hn i hi
    rw [e] at this
    simp [ho] at this
  have st : ∀ i, i ∉ vs → slot σ2 i = slot σ i := fun i h => by unfold slot; rw [b i h]
  have oD : ((c.blk D o).to S').H0 D = some o := if_pos rfl
  have notpen : ∀ a, ¬ G.pens c a → ¬ G.pens ((c.blk D o).to S') a := fun a h z => h z
  have muD : ∀ a nd, k.μ a = some nd → c.mu a ∨ c.H0 a = none := fun a nd e => (J.mu a nd e).2.2.1.imp id fun h => by
    by_cases z : a = D
    · rw [z, oD] at h; cases h
    · exact (H0e a z).symm.trans h
  have mD : k.μ D = none := by
    cases e : k.μ D with
    | none => rfl
    | some nd =>
      rcases (J.mu D nd e).2.2.1 with h | h
      · exact absurd h0 (I.mu0 D h).2
      · rw [oD] at h; cases h
  refine ⟨⟨I.len, fun i sv e => ?_, fun i sv a e ho es => ?_, I.apart, J.dom, fun a u e hp => ?_, fun p e => ?_, fun a h => ⟨(J.no a (.inl h)).1, (I.no a h).2⟩, fun q e => ⟨(I.tab q e).1, (J.tab q e).2⟩, fun a nd e => ⟨(J.mu a nd e).1, (J.mu a nd e).2.1, muD a nd e, (J.mu a nd e).2.2.2⟩, fun a h => ⟨(J.mu0 a h).1, (I.mu0 a h).2⟩, J.mz⟩, ?_, (J.no D (.inr rfl)).1, mD⟩
  · by_cases ho : sv.isOwn = true
    · have hi := notIn i sv e ho
      have q := J.slots i sv (by rw [be i hi]; exact e)
      rw [st i hi] at q
      cases sv with
      | own xs => exact q
      | ownK xs => exact q
      | _ => cases ho
    · exact (I.slots i sv e).grow g fun a _ h => absurd h ho
  · have hi := notIn i sv e ho
    have q := J.own i sv a (by rw [be i hi]; exact e) ho (by rw [st i hi]; exact es)
    exact ⟨q.1, (I.own i sv a e ho es).2.1, q.2.2⟩
  · exact J.fr a u (by rw [show ((c.blk D o).to S').H0 a = c.H0 a from H0e a (nD a (by rw [e]; exact fun z => nomatch z))]; exact e) (notpen a hp)
  · obtain ⟨h1, h2, h3, _, _⟩ := J.pen p e
    obtain ⟨_, _, _, h4, h5⟩ := I.pen p e
    exact ⟨h1, h2, h3, h4, h5⟩
  · exact J.fr D o oD (notpen D (I.penOld h0))
end

section
variable {G : PenK} {X : Cx} {Wx : WX}
/-- a block's tests -/
def Ts (G : PenK) (X : Cx) (es : List Expr) (g : Env → W Bool) : Prop := PTs X es (tT G X WF g)
theorem ts_nil : Ts G X [] (fun _ => ret true) := ⟨fun pins s σ H Q I ⟨c, ρ, n, P, PX, I', q, hg, hx⟩ => pts_nil.run pins s σ H Q I (hg true n c.S H q .refl I')⟩
theorem ts_one {e : Expr} {g : Env → W Bool} (h : T G X WF e g) : Ts G X [e] g := pts_one h
theorem compW_len : ∀ {t : Tg} {gt : Env → W Bool} {ge : Env → W D} {ρ : Env} {xs : List D}, True := fun {_ _ _ _ _} => trivial
theorem lc_body {t : Tg} {gt : Env → W Bool} {ge : Env → W D} {vs : List Nat} {c : C} {σ : L2.St} {ρ : Env} {H H' : Hp} {S' : Addr → Prop} {k : Nt} {xs : List D} {J : It} {P : List D → Nt → Prop} {Q : VK} (hix : ∀ i ∈ t.ix, i ∈ vs) (hg : GlO G X c σ ρ H P Q) (hz : xs.length ≤ sizeLine) (hno : noOwn vs ρ = true)
    (p : compW t gt ge (wip vs ρ) xs k P fun _ _ => False) (g : Grow c.S S' H H') (I' : SI G X.K (c.to S') σ H' ρ k) (wk : Walks G X.K J S' H' xs) : tLc (fun _ H R => R J H) (gT X.K t) (tT G X WF gt) (tE G X WF ge) vs σ H' Q := fun D hD => by
    have h0 : c.H0 D = none := I'.freeOld hD
    have hS : ¬ S' D := I'.freeS hD
    have hM : k.μ D = none := I'.freeM hD
    have hO : ¬ ownS ρ σ D := fun z => I'.own_there z hD
    obtain ⟨ID, gD⟩ := SI.put (o := .lst []) I' h0 hS hM hO
    -- the turns
    refine ⟨fun i m H2 => m = xs.length - i ∧ i ≤ xs.length ∧ ∃ S2 k2 acc vac, Grow S' S2 H' H2 ∧ SI G X.K (c.to S2) σ H2 ρ k2 ∧ H2 D = some (.lst vac) ∧ ¬ S2 D ∧ k2.μ D = none ∧ Reps X.K S2 H2 acc vac ∧ acc.length ≤ i ∧ compW t gt ge (wip vs ρ) (xs.drop i) k2 (fun ys k => P (acc ++ ys) k) (fun _ _ => False),
      ⟨_, rfl, Nat.zero_le _, S', k, [], [], gD, ID, upd_same, hS, hM, rfl, Nat.le_refl _, p⟩, ?_⟩
    rintro i m H2 ⟨rfl, hi2, S2, k2, acc, vac, g2, I2, e2, n2, m2, r2, l2, p2⟩
    obtain ⟨w1, w2⟩ := wk (c.to S2) ρ σ H2 k2 i g2 I2
    by_cases hlt : i < xs.length
    · obtain ⟨go, yl⟩ := w1 hlt
      refine .inr ⟨go, fun H3 => ∃ S3 k3 acc vac, Grow S' S3 H' H3 ∧ SI G X.K (c.to S3) σ H3 ρ k3 ∧ H3 D = some (.lst vac) ∧ ¬ S3 D ∧ k3.μ D = none ∧ Reps X.K S3 H3 acc vac ∧ acc.length ≤ i + 1 ∧ compW t gt ge (wip vs ρ) (xs.drop (i + 1)) k3 (fun ys k => P (acc ++ ys) k) (fun _ _ => False),
        fun H3 q => ⟨xs.length - (i + 1), by omega, rfl, hlt, q⟩, fun v H3 y => ?_⟩
      -- the walk may look at the list too: it is kept by the block's ghost
      obtain ⟨wb, _⟩ := wk ((c.to S2).blk D (.lst vac)) ρ σ H2 k2 i g2 (SI.blk (c := c.to S2) I2 e2 h0 n2 m2 hO)
      obtain ⟨_, yb⟩ := wb hlt
      obtain ⟨S3, x, g3, I3, ex, r3⟩ := yb v H3 y
      have ed : xs.drop i = x :: xs.drop (i + 1) := by
        rw [List.drop_eq_getElem_cons hlt]
        rw [List.getElem?_eq_getElem hlt] at ex
        cases ex
        rfl
      rw [ed] at p2
      refine gT_ok t (SI.wipe vs I3) r3 p2 fun ρ4 k4 σ4 p4 I4 b4 be4 => ⟨wipe_but b4 hix, ⟨_, ρ4, k4, fun b k => (if b = true then bnd (ge ρ4) fun y => bnd (compW t gt ge (wip vs ρ) (xs.drop (i + 1))) fun ys => ret (y :: ys) else compW t gt ge (wip vs ρ) (xs.drop (i + 1))) k (fun ys k => P (acc ++ ys) k) (fun _ _ => False), fun _ _ => False, I4, p4, fun b k5 S5 H5 p5 g5 I5 => ?_, fun _ _ _ _ _ _ z => z.elim⟩⟩
      have outσ : ∀ i, i ∉ vs → σ4[i]? = σ[i]? := fun i h => (b4.2 i fun z => h (hix i z)).trans (wipe_out vs σ i h)
      have outρ : ∀ i, i ∉ vs → ρ4[i]? = ρ[i]? := fun i h => (be4.2 i fun z => h (hix i z)).trans (wip_out vs ρ i h)
      have g25 : Grow S2 S5 H2 H5 := g3.trans g5
      cases b with
      | false =>
        obtain ⟨J5, eD5, nD5, mD5⟩ := SI.restore (vs := vs) (c := c.to S2) I2 h0 I5 g25 outσ outρ hno
        exact iteF ⟨S5, k5, acc, vac, g2.trans g25, J5, eD5, nD5, mD5, Reps.grow g25 _ _ r2, Nat.le_succ_of_le l2, p5⟩
      | true =>
        refine iteT (tE.bnd I5 p5 (fun _ _ _ _ _ _ z => z.elim) fun d k6 u S6 H6 p6 g6 I6 _ r6 => ?_)
        have g26 : Grow S2 S6 H2 H6 := g25.trans g6
        obtain ⟨J6, eD6, nD6, mD6⟩ := SI.restore (vs := vs) (c := c.to S2) I2 h0 I6 g26 outσ outρ hno
        have r26 := Reps.grow g26 _ _ r2
        refine ⟨vac, eD6, by rw [r2.len]; omega, S6, k6, acc ++ [d], vac ++ [u], ?_, ?_, upd_same, nD6, mD6, ?_, by rw [List.length_append]; show acc.length + 1 ≤ i + 1; omega, ?_⟩
        · exact (g2.trans g26).trans (SI.put (o := .lst (vac ++ [u])) J6 h0 nD6 mD6 hO).2
        · exact (SI.put (o := .lst (vac ++ [u])) J6 h0 nD6 mD6 hO).1
        · exact Reps.grow (SI.put (o := .lst (vac ++ [u])) J6 h0 nD6 mD6 hO).2 _ _ (Reps.app r26 (Reps.one r6))
        · have e : (fun (ys : List PL.D) (k : Nt) => P ((acc ++ [d]) ++ ys) k) = fun ys k => P (acc ++ (d :: ys)) k := by
            funext ys k
            rw [List.append_assoc]
            rfl
          rw [e]
          exact p6
    · have e : i = xs.length := by omega
      subst e
      rw [List.drop_length] at p2
      have p2' : P acc k2 := by
        have q : P (acc ++ []) k2 := p2
        rwa [List.append_nil] at q
      exact .inl ⟨w2 (Nat.le_refl _), hg acc k2 D vac S2 H2 p2' (g.trans g2) I2 e2 (by have : xs.length ≤ sizeLine := hz; omega) r2 ⟨⟨n2, h0, m2⟩, fun i sv e ho es => hO ⟨i, sv, e, ho, es⟩⟩⟩
theorem lc_law {t : Tg} {g : Env → W (List D)} {gt : Env → W Bool} {ge : Env → W D} {vs : List Nat} {σ : L2.St} {H : Hp} {Q : VK} (hix : ∀ i ∈ t.ix, i ∈ vs)
    (hh : tO G X Wx (fun ρ => bnd (g ρ) fun xs => few xs (grd (noOwn vs ρ = true) (quiet (compW t gt ge (wip vs ρ) xs)))) σ H Q) : tLc (tI G X Wx g) (gT X.K t) (tT G X WF gt) (tE G X WF ge) vs σ H Q := by
    obtain ⟨c, ρ, n, P, PX, I, q, hg, hx⟩ := hh
    exact ⟨c, ρ, n, fun xs k => few xs (grd (noOwn vs ρ = true) (quiet (compW t gt ge (wip vs ρ) xs))) k P PX, PX, I, q, fun xs k S' H' J ⟨hz, hno, p⟩ g I' wk => lc_body hix hg hz hno p g I' wk, hx⟩
theorem o_lc {elt tg iter : Expr} {ifs : List Expr} {scope : Scope} {own : List (Str × Nat)} {pos : Pos} {t : Tg} {g : Env → W (List D)} {gt : Env → W Bool} {ge : Env → W D} (hc : X.calm = true) (hN : X.N.Nodup) (hi : Wk G X Wx tg iter g) (ok : BlkOk X.N X.env.scope scope own)
    (hg : ∀ (s : Shared) (H : Hp) (A : Addr) (cl : List (Str × Addr)) (fp : List Addr), PTg (X.blk s H scope (compEnvC scope cl A X.env) fp) tg t) (ht : ∀ (s : Shared) (H : Hp) (A : Addr) (cl : List (Str × Addr)) (fp : List Addr), Ts G (X.blk s H scope (compEnvC scope cl A X.env) fp) ifs gt)
    (he : ∀ (s : Shared) (H : Hp) (A : Addr) (cl : List (Str × Addr)) (fp : List Addr), E G (X.blk s H scope (compEnvC scope cl A X.env) fp) WF elt ge) (hix : ∀ i ∈ t.ix, i ∈ own.map (·.2) := by decide) (hs : ∀ x, foldedSetIterable iter X.env x = pure x := by intro _; rfl) :
    EO G X Wx (.ListComp elt [⟨tg, iter, ifs, 0⟩] scope pos) (fun ρ => bnd (g ρ) fun xs => few xs (grd (noOwn (own.map (·.2)) ρ = true) (quiet (compW t gt ge (wip (own.map (·.2)) ρ) xs)))) :=
  weakE (pe_lc (g := gT X.K t) (tt := tT G X WF gt) (te := tE G X WF ge) hc hN hi ok hg ht he hs) fun σ H Q q => lc_law hix q
/-- name = [..] on one line, the name a local -/
theorem s_asgLc {y : Str} {py spos : Pos} {elt tg iter : Expr} {ifs : List Expr} {scope : Scope} {own : List (Str × Nat)} {pos : Pos} {t : Tg} {g : Env → W (List D)} {gt : Env → W Bool} {ge : Env → W D} (i : Nat) (hc : X.calm = true) (hN : X.N.Nodup) (hi : Wk G X Wx tg iter g) (ok : BlkOk X.N X.env.scope scope own)
    (hg : ∀ (s : Shared) (H : Hp) (A : Addr) (cl : List (Str × Addr)) (fp : List Addr), PTg (X.blk s H scope (compEnvC scope cl A X.env) fp) tg t) (ht : ∀ (s : Shared) (H : Hp) (A : Addr) (cl : List (Str × Addr)) (fp : List Addr), Ts G (X.blk s H scope (compEnvC scope cl A X.env) fp) ifs gt)
    (he : ∀ (s : Shared) (H : Hp) (A : Addr) (cl : List (Str × Addr)) (fp : List Addr), E G (X.blk s H scope (compEnvC scope cl A X.env) fp) WF elt ge) (hy : X.N[i]? = some y := by rfl) (hyl : X.env.scope.names.lookup y = some .local := by rfl) (hix : ∀ i ∈ t.ix, i ∈ own.map (·.2) := by decide)
    (hk : X.env.scope.kind = .function := by rfl) (hln : (py.line == pos.line) = true := by rfl) (hsc : (scope.names.any fun (n, k) => n == y && (k == .local || k == .cell)) = false := by rfl) (hs : ∀ x, foldedSetIterable iter X.env x = pure x := by intro _; rfl) :
    St1 G X Wx (.Assign [.Name y py] (.ListComp elt [⟨tg, iter, ifs, 0⟩] scope pos) spos) (fun ρ => bnd (bnd (g ρ) fun xs => few xs (grd (noOwn (own.map (·.2)) ρ = true) (quiet (compW t gt ge (wip (own.map (·.2)) ρ) xs)))) fun xs => ret (.nx (ρ.set i (.d (.lst xs))))) :=
  weakS (ps_setLc (g := gT X.K t) (tt := tT G X WF gt) (te := tE G X WF ge) hc hN hy hyl (sw_true hk hyl hln hsc) hi ok hg ht he hs) fun Dn σ H ⟨c, ρ, n, P, PX, I, q, hg, hx⟩ =>
    lc_law hix (tO.bnd I q hx.x fun xs k a vs S' H' p g I' hx' e z r f => by
      obtain ⟨I2, g2⟩ := I'.adopt f (by rw [e]; exact fun z => nomatch z)
      exact hg.1 _ k _ _ H' p (g.trans g2) (I2.set (i := i) (d := .lst xs) (v := .ref a) ⟨a, vs, rfl, ⟨.inr rfl, e⟩, z, Reps.grow g2 _ _ r⟩))
end
end PL

/-! The layer: defs and their calls. -/
namespace PL
open PySem PySem.Spec PyProof.Rows L2

/-! ### a def's promise, where no repr is under way -/
structure FnG (P : Program) (w : World) (K : PySem.W.Frag) (mg : Str → Option Value) (base : Heap) (k : Nat) (f : Addr) (fd : FuncData) (ps : List Str) (sp : Sp) : Prop where
  len : ∀ vs H Q E, sp vs H Q E → vs.length = ps.length
  run : ∀ (A : Around) (outer : List PySem.Env) (s : Shared) (H : Hp) (args : Args) (us : List Value) (vs : List V) (Q : VK) (E : XK), A.guards = some [] → Room k A → Env0 P w K mg base A outer s H →
    BindsTo s fd args (ps.zip us) → Vals vs us → sp vs H Q E → codeAny (model P w) A (.call (.ref f) args) (CR (L2.CX P w) outer P w H s Q E) s
theorem FnG.mono {P : Program} {w : World} {K : PySem.W.Frag} {mg : Str → Option Value} {base : Heap} {j k : Nat} {f : Addr} {fd : FuncData} {ps : List Str} {sp : Sp} (F : FnG P w K mg base j f fd ps sp) (h : j ≤ k) : FnG P w K mg base k f fd ps sp :=
  ⟨F.len, fun A outer s H args us vs Q E hg hr => F.run A outer s H args us vs Q E hg (hr.mono h)⟩
theorem FnG.imp {P : Program} {w : World} {K : PySem.W.Frag} {mg : Str → Option Value} {base : Heap} {k : Nat} {f : Addr} {fd : FuncData} {ps : List Str} {sp sp' : Sp} (F : FnG P w K mg base k f fd ps sp)
    (h : ∀ vs H Q E, sp' vs H Q E → sp vs H Q E) : FnG P w K mg base k f fd ps sp' :=
  ⟨fun vs H Q E q => F.len vs H Q E (h _ _ _ _ q), fun A outer s H args us vs Q E hg hr he hb hv hs => F.run A outer s H args us vs Q E hg hr he hb hv (h _ _ _ _ hs)⟩

theorem FnG.of_bodyC {P : Program} {w : World} {K : PySem.W.Frag} {mg : Str → Option Value} {base : Heap} {k : Nat} {f : Addr} {fd : FuncData} {x qual : Str} {st : Stmt} {N ps : List Str} {sp : Sp} (F : Fun K x qual st f fd) (S : FnScope N ps (defScope st))
    (len : ∀ vs H Q E, sp vs H Q E → vs.length = ps.length)
    (body : ∀ (cdv : Value) (A : Around) (outer : List PySem.Env) (s : Shared) (H : Hp) (vs : List V) (Q : VK) (E : XK), fd.code = cdv → A.guards = some [] → Room k (A.deeper (envOfC qual (defScope st) s.heap.objs.size f cdv)) → sp vs H Q E →
      ∃ t, PSs (cxOf (L2.CX P w) P w K mg base N qual (defScope st) f cdv A outer s H E) (defBody st) t ∧ t { nx := fun _ H' => Q .non H', rt := Q } (L2.start N vs) H) : FnG P w K mg base (k + 1) f fd ps sp := by
  obtain ⟨oc, od, kV, doc, pm, an, cdv, ct, osl, rfl, lk, hcd⟩ := F.ex
  refine ⟨len, fun A outer s H args us vs Q E hg hr e0 hb r hsp => ?_⟩
  have hk : K.In s.heap := e0.mod.kin.keeps fun b o e => (e0.bs b o e).1
  have hlim : s.heap.NoLimit := e0.mod.nolimit.keeps fun b o e => (e0.bs b o e).1
  have loc : ∀ y ∈ ps.zip us, (defScope st).names.lookup y.1 = some .local ∨ ((defScope st).names.lookup y.1 = some .cell ∧ ((cellsFrom (s.heap.objs.size + 1) (defScope st).names []).lookup y.1).isSome = true) := by
    rintro ⟨y, v⟩ hy
    cases S.par y (List.of_mem_zip hy).1 with
    | inl q => exact Or.inl q
    | inr q => exact Or.inr ⟨q, PySem.W.cellsFrom_some _ _ _ (Or.inl q)⟩
  refine codeAny_call_function hr.depth (hk _ _ lk) rfl S.co S.gen rfl (PySem.W.codeRec_of hk hcd) (hb _ _ _ _ (wpAny_newFunctionEnv_cells S.kind loc ?_))
  rintro env rfl s1 hin
  refine ⟨hlim.keeps hin.toInCall.keep, codeAny_func ?_⟩
  obtain ⟨t, ht, hq⟩ := body cdv A outer s H vs Q E rfl hg (hr.deeper _) hsp
  have J := inv_start (CX := L2.CX P w) (E := E) (mg := mg) (base := base) S hr.hd e0 (len _ _ _ _ hsp) r hin
  refine wpAny_mono (ht.run [] s1 (L2.start N vs) H _ J hq) (fun fl s' hs => ?_) fun _ _ z => z
  cases fl with
  | ret u => obtain ⟨v, σ', H', J', rv, q⟩ := hs; exact ⟨v, H', J'.os, J'.bare, J'.base, J'.hok, rv, q⟩
  | next => obtain ⟨σ', H', J', q⟩ := hs; exact ⟨.non, H', J'.os, J'.bare, J'.base, J'.hok, rfl, q⟩
  | brk => obtain ⟨_, _, _, q⟩ := hs; exact q.elim
  | cont => obtain ⟨_, _, _, q⟩ := hs; exact q.elim

theorem FnG.of_body {P : Program} {w : World} {K : PySem.W.Frag} {mg : Str → Option Value} {base : Heap} {k : Nat} {f : Addr} {fd : FuncData} {x qual : Str} {st : Stmt} {N ps : List Str} {sp : Sp} (F : Fun K x qual st f fd) (S : FnScope N ps (defScope st))
    (len : ∀ vs H Q E, sp vs H Q E → vs.length = ps.length)
    (body : ∀ (cdv : Value) (A : Around) (outer : List PySem.Env) (s : Shared) (H : Hp) (vs : List V) (Q : VK) (E : XK), A.guards = some [] → Room k (A.deeper (envOfC qual (defScope st) s.heap.objs.size f cdv)) → sp vs H Q E →
      ∃ t, PSs (cxOf (L2.CX P w) P w K mg base N qual (defScope st) f cdv A outer s H E) (defBody st) t ∧ t { nx := fun _ H' => Q .non H', rt := Q } (L2.start N vs) H) : FnG P w K mg base (k + 1) f fd ps sp :=
  FnG.of_bodyC F S len fun cdv A outer s H vs Q E _ => body cdv A outer s H vs Q E

/-! ### promises over data -/
def ArgOk (K : PySem.W.Frag) (S : Addr → Prop) (H : Hp) (pen : Option (Addr × Addr)) : SV → V → Prop
  | .d x, v => Rep K S H x v
  | .pen, v => ∃ p, pen = some p ∧ v = .ref p.1
  | .lam f c q σ ds, v => v = .ref f ∧ LamOk K S H c q σ ds
  | .o a, v => v = .ref a
  | _, _ => False
def ArgsOk (K : PySem.W.Frag) (S : Addr → Prop) (H : Hp) (pen : Option (Addr × Addr)) : List SV → List V → Prop
  | [], vs => vs = []
  | x :: xs, vs => ∃ v ws, vs = v :: ws ∧ ArgOk K S H pen x v ∧ ArgsOk K S H pen xs ws
/-- the objects that are changed, as a callee finds them -/
def MuOk (G : PenK) (K : PySem.W.Frag) (S : Addr → Prop) (H : Hp) (pen : Option (Addr × Addr)) (n : Nt) : Prop :=
  (∀ a nd, n.μ a = some nd → NdOk K S H a nd ∧ ¬ S a ∧ (∀ p, pen = some p → a ≠ p.1 ∧ a ≠ p.2) ∧ ∀ q ∈ G.tab, a ≠ q.1) ∧ (G.chg = false → ∀ a, n.μ a = none)
structure After (G : PenK) (K : PySem.W.Frag) (S S' : Addr → Prop) (pen : Option (Addr × Addr)) (n : Nt) (H H' : Hp) (k : Nt) : Prop where
  grow : Grow S S' H H'
  dom : ∀ a, S' a → H' a ≠ none
  new : ∀ a, S' a → S a ∨ H a = none
  fr : ∀ a o, H a = some o → (∀ p, pen = some p → a ≠ p.1 ∧ a ≠ p.2) → (∀ q ∈ G.tab, a ≠ q.1) → n.μ a = none → H' a = some o
  tab : ∀ q ∈ G.tab, TabI S' H' q.1 q.2
  pen : ∀ p, pen = some p → G.inv H' p.1 p.2 k.n ∧ ¬ S' p.1 ∧ ¬ S' p.2
  mu : ∀ a nd, k.μ a = some nd → NdOk K S' H' a nd ∧ ¬ S' a ∧ (n.μ a ≠ none ∨ H a = none)
  mu0 : ∀ a, n.μ a ≠ none → k.μ a ≠ none
  mz : G.chg = false → ∀ a, k.μ a = none
def spM (G : PenK) (K : PySem.W.Frag) (mg : Str → Option Value) (ps : Nat) (m : List SV → W D) : Sp := fun vs H Q E =>
  ∃ (S : Addr → Prop) (pen : Option (Addr × Addr)) (args : List SV) (n : Nt) (P : D → Nt → Prop) (PX : Exc → Nt → Prop),
    args.length = ps ∧ (∀ a, S a → H a ≠ none) ∧ (∀ p, pen = some p → G.inv H p.1 p.2 n.n ∧ ¬ S p.1 ∧ ¬ S p.2) ∧ (∀ q ∈ G.tab, ¬ S q.1 ∧ TabI S H q.1 q.2) ∧ MuOk G K S H pen n ∧ ArgsOk K S H pen args vs ∧ m args n P PX ∧
    (∀ d k v S' H', P d k → After G K S S' pen n H H' k → Rep K S' H' d v → Q v H') ∧ ∀ x k S' H' cls dd, PX x k → After G K S S' pen n H H' k → RepX K mg S' H' x cls dd → E cls dd H'
/-- what a body does to its arguments: len names in all -/
def runB (len : Nat) (b : Env → W Out) (args : List SV) : W D := bnd (b (args ++ List.replicate (len - args.length) .un)) fun o => match o with
  | .nx _ => ret .non
  | .rt d _ => ret d
  | _ => stuck

section
variable {K : PySem.W.Frag} {S : Addr → Prop} {H : Hp} {pen : Option (Addr × Addr)}
theorem ArgsOk.len : ∀ {xs : List SV} {vs : List V}, ArgsOk K S H pen xs vs → vs.length = xs.length
  | [], _, h => by
    have e : _ = [] := h
    rw [e]
    rfl
  | _ :: xs, _, h => by
    obtain ⟨v, ws, rfl, _, q⟩ := h
    show ws.length + 1 = xs.length + 1
    rw [ArgsOk.len q]
theorem ArgsOk.get : ∀ {xs : List SV} {vs : List V} {i : Nat} {x : SV}, ArgsOk K S H pen xs vs → xs[i]? = some x → ∃ v, vs[i]? = some v ∧ ArgOk K S H pen x v
  | [], _, _, _, _, e => nomatch e
  | y :: xs, _, 0, x, h, e => by
    obtain ⟨v, ws, rfl, r, _⟩ := h
    cases e
    exact ⟨v, rfl, r⟩
  | y :: xs, _, i + 1, x, h, e => by
    obtain ⟨v, ws, rfl, _, q⟩ := h
    exact ArgsOk.get (i := i) q e
theorem ArgsOk.app : ∀ {xs ys : List SV} {vs ws : List V}, ArgsOk K S H pen xs vs → ArgsOk K S H pen ys ws → ArgsOk K S H pen (xs ++ ys) (vs ++ ws)
  | [], ys, vs, ws, h, q => by
    have e : vs = [] := h
    rw [e]
    exact q
  | x :: xs, ys, vs, ws, h, q => by
    obtain ⟨v, us, rfl, r, t⟩ := h
    exact ⟨v, us ++ ws, rfl, r, ArgsOk.app t q⟩
theorem ArgOk.grow {S' : Addr → Prop} {H' : Hp} (g : Grow S S' H H') : ∀ {x : SV} {v : V}, ArgOk K S H pen x v → ArgOk K S' H' pen x v
  | .d x, v, h => Rep.grow g x v h
  | .pen, _, h => h
  | .un, _, h => h.elim
  | .own _, _, h => h.elim
  | .ownK _, _, h => h.elim
  | .exc _, _, h => h.elim
  | .lam _ _ _ _ _, _, h => ⟨h.1, h.2.grow g⟩
  | .o _, _, h => h
theorem ArgsOk.grow {S' : Addr → Prop} {H' : Hp} (g : Grow S S' H H') : ∀ {xs : List SV} {vs : List V}, ArgsOk K S H pen xs vs → ArgsOk K S' H' pen xs vs
  | [], _, h => h
  | x :: xs, _, h => by
    obtain ⟨v, ws, e, r, q⟩ := h
    exact ⟨v, ws, e, r.grow g, ArgsOk.grow g q⟩
end

section
variable {G : PenK} {P : Program} {w : World} {K : PySem.W.Frag} {mg : Str → Option Value} {base : Heap}
theorem start_slot {N : List Str} {vs : List V} {i : Nat} : slot (L2.start N vs) i = vs[i]? := by
  unfold slot L2.start
  by_cases h : i < vs.length
  · rw [List.getElem?_append_left (by rw [List.length_map]; exact h), List.getElem?_map, List.getElem?_eq_getElem h]
    rfl
  · rw [List.getElem?_append_right (by rw [List.length_map]; omega), List.getElem?_replicate, List.getElem?_eq_none (by omega)]
    split <;> rfl
/-- the state at a body's entry -/
theorem SI.entry {S : Addr → Prop} {H : Hp} {pen : Option (Addr × Addr)} {args : List SV} {vs : List V} {N : List Str} {n : Nt} (hl : args.length ≤ N.length) (dom : ∀ a, S a → H a ≠ none) (hp : ∀ p, pen = some p → G.inv H p.1 p.2 n.n ∧ ¬ S p.1 ∧ ¬ S p.2) (ht : ∀ q ∈ G.tab, ¬ S q.1 ∧ TabI S H q.1 q.2) (hm : MuOk G K S H pen n)
    (r : ArgsOk K S H pen args vs) : SI G K ⟨S, H, pen, fun a => H a ≠ none ∧ ¬ S a, fun a => n.μ a ≠ none⟩ (L2.start N vs) H (args ++ List.replicate (N.length - args.length) SV.un) n := by
  have lv := r.len
  have key : ∀ (i : Nat) (sv : SV), (args ++ List.replicate (N.length - args.length) SV.un)[i]? = some sv → sv = .un ∨ args[i]? = some sv := fun i sv e => by
    by_cases h : i < args.length
    · rw [List.getElem?_append_left h] at e
      exact .inr e
    · rw [List.getElem?_append_right (by omega), List.getElem?_replicate] at e
      split at e
      · exact .inl (Option.some.inj e).symm
      · cases e
  have noO : ∀ (i : Nat) (sv : SV), (args ++ List.replicate (N.length - args.length) SV.un)[i]? = some sv → sv.isOwn = true → False := fun i sv e ho => by
    rcases key i sv e with rfl | e
    · cases ho
    · obtain ⟨v, _, q⟩ := r.get e
      cases sv with
      | own _ => exact q
      | ownK _ => exact q
      | _ => cases ho
  refine ⟨?_, fun i sv e => ?_, fun i sv a e ho => (noO i sv e ho).elim, fun i j sv sv' a _ e _ ho => (noO i sv e ho).elim, dom, fun a o e _ => e, fun p e => ?_, fun a h => ⟨h.2, h.1⟩, fun q e => ⟨⟨(ht q e).2.there, (ht q e).1⟩, (ht q e).2⟩, fun a nd e => ⟨(hm.1 a nd e).1, (hm.1 a nd e).2.1, .inl (by show n.μ a ≠ none; rw [e]; exact fun z => nomatch z), fun z => ?_⟩, fun a h => ⟨h, ?_⟩, hm.2⟩
  · unfold L2.start
    rw [List.length_append, List.length_replicate, List.length_append, List.length_map, List.length_replicate, lv]
  · rcases key i sv e with rfl | e
    · trivial
    · obtain ⟨v, e2, q⟩ := r.get e
      rw [start_slot, e2]
      cases sv with
      | d x => exact ⟨v, rfl, q⟩
      | pen => obtain ⟨p, h1, h2⟩ := q; exact ⟨p, h1, by rw [h2]⟩
      | un => trivial
      | own _ => exact q.elim
      | ownK _ => exact q.elim
      | exc _ => exact q.elim
      | lam _ _ _ _ _ => exact ⟨by rw [q.1], q.2⟩
      | o _ => exact congrArg some q
  · obtain ⟨h1, h2, h3⟩ := hp p e
    obtain ⟨k1, k2⟩ := G.there h1
    exact ⟨h1, h2, h3, k1, k2⟩
  · rcases z with ⟨p, e2, z⟩ | ⟨q, e2, z⟩
    · exact z.elim ((hm.1 a nd e).2.2.1 p e2).1 ((hm.1 a nd e).2.2.1 p e2).2
    · exact (hm.1 a nd e).2.2.2 q e2 z
  · obtain ⟨nd, e⟩ := Option.ne_none_iff_exists'.mp h
    exact (hm.1 a nd e).1.there
theorem SI.after {S S' : Addr → Prop} {H H' : Hp} {pen : Option (Addr × Addr)} {σ : L2.St} {ρ : Env} {n k : Nt} (g : Grow S S' H H') (I : SI G K ⟨S', H, pen, fun a => H a ≠ none ∧ ¬ S a, fun a => n.μ a ≠ none⟩ σ H' ρ k) : After G K S S' pen n H H' k := by
  refine ⟨g, I.dom, fun a h => ?_, fun a o e h ht hn => I.fr a o e fun z => z.elim (fun z => z.elim (fun ⟨p, e2, z⟩ => z.elim (h p e2).1 (h p e2).2) (fun ⟨q, e2, z⟩ => ht q e2 z)) fun z => z hn, fun q e => (I.tab q e).2, fun p e => ?_, fun a nd e => ⟨(I.mu a nd e).1, (I.mu a nd e).2.1, (I.mu a nd e).2.2.1⟩, fun a h => (I.mu0 a h).1, I.mz⟩
  · by_cases hs : S a
    · exact .inl hs
    · exact .inr (Classical.byContradiction fun z => (I.no a ⟨z, hs⟩).1 h)
  · obtain ⟨h1, h2, h3, _⟩ := I.pen p e
    exact ⟨h1, h2, h3⟩
/-- THE RULE for a def: its body over data -/
theorem fn_ok {k : Nat} {f : Addr} {fd : FuncData} {x qual : Str} {st : Stmt} {N ps : List Str} {b : Env → W Out} (F : Fun K x qual st f fd) (S : FnScope N ps (defScope st)) (hn : ps.length ≤ N.length)
    (body : ∀ (cdv : Value) (A : Around) (outer : List PySem.Env) (s : Shared) (H : Hp) (E : XK) (Wx : WX), A.guards = some [] → Room k (A.deeper (envOfC qual (defScope st) s.heap.objs.size f cdv)) → Takes (cxOf (L2.CX P w) P w K mg base N qual (defScope st) f cdv A outer s H E) Wx →
      PassesOwn (model P w) (A.deeper (envOfC qual (defScope st) s.heap.objs.size f cdv)) (envOfC qual (defScope st) s.heap.objs.size f cdv) (cxOf (L2.CX P w) P w K mg base N qual (defScope st) f cdv A outer s H E).xe → Ss G (cxOf (L2.CX P w) P w K mg base N qual (defScope st) f cdv A outer s H E) Wx (defBody st) b) :
    FnG P w K mg base (k + 1) f fd ps (spM G K mg ps.length (runB N.length b)) := by
  refine FnG.of_body F S (fun vs H Q E ⟨S, pen, args, n, P, PX, hl, _, _, _, _, r, _⟩ => r.len.trans hl) fun cdv A outer s H vs Q E hg hr ⟨S0, pen, args, n, P0, PX, hl, dom, hp, ht, hm, r, q, hq, hx⟩ => ?_
  refine ⟨_, body cdv A outer s H E (fun cls d _ H => E cls d H) hg hr (L2.takes_of rfl rfl rfl rfl) (passes_of rfl), ?_⟩
  refine ⟨⟨S0, H, pen, fun a => H a ≠ none ∧ ¬ S0 a, fun a => n.μ a ≠ none⟩, args ++ List.replicate (N.length - args.length) .un, n, fun o k => (match o with | .nx _ => ret .non | .rt d _ => ret d | _ => stuck : W D) k P0 PX, PX, SI.entry (by omega) dom hp ht hm r, q, ⟨fun ρ' k σ' S' H' p g I => ?_, fun d k v σ' ρ' S' H' p g I r => ?_, fun ρ' k σ' S' H' p g I => p.elim, fun ρ' k σ' S' H' p g I => p.elim⟩, fun x k σ' ρ' S' H' cls dd p g I r => hx x k S' H' cls dd p (SI.after g I) r⟩
  · exact hq .non k .non S' H' p (SI.after g I) rfl
  · exact hq d k v S' H' p (SI.after g I) r
end

/-! ### arguments of a def -/
section
variable {G : PenK} {X : Cx} {Wx : WX}
def GlV (G : PenK) (X : Cx) (c : C) (σ : L2.St) (ρ : Env) (H : Hp) (P : List SV → Nt → Prop) (Q : List V → Hp → Prop) : Prop :=
  ∀ ds k vs S' H', P ds k → Grow c.S S' H H' → SI G X.K (c.to S') σ H' ρ k → ArgsOk X.K S' H' c.pen ds vs → Q vs H'
def tVr (G : PenK) (X : Cx) (Wx : WX) (g : Env → W (List SV)) : TA := fun σ H Q => ∃ c ρ n P PX, SI G X.K c σ H ρ n ∧ g ρ n P PX ∧ GlV G X c σ ρ H P Q ∧ OKx G X Wx c σ ρ H PX
def AV (G : PenK) (X : Cx) (Wx : WX) (es : List Expr) (g : Env → W (List SV)) : Prop := PA X es (tVr G X Wx g)
def KV (G : PenK) (X : Cx) (Wx : WX) (kws : List Keyword) (g : Env → W (List SV)) : Prop := PK X kws (tVr G X Wx g)
theorem v_nil : AV G X Wx [] (fun _ => ret []) := weakA pa_nil fun σ H Q ⟨c, ρ, n, P, PX, I, q, hg, hx⟩ => hg [] n [] c.S H q .refl I rfl
theorem v_cons {e : Expr} {es : List Expr} {g : Env → W D} {gs : Env → W (List SV)} (h : E G X Wx e g) (hs : AV G X Wx es gs) (hp : starEach (e :: es) X.env = (false, eval e X.env) :: starEach es X.env := by rfl) :
    AV G X Wx (e :: es) (fun ρ => bnd (g ρ) fun x => bnd (gs ρ) fun xs => ret (.d x :: xs)) :=
  weakA (pa_cons h hs hp) fun σ H Q ⟨c, ρ, n, P, PX, I, q, hg, hx⟩ => tE.bnd I q hx fun d k u S' H' p g I' hx' r =>
    ⟨c.to S', ρ, k, fun ds k => P (.d d :: ds) k, PX, I', p, fun ds k2 us S2 H2 p2 g2 I2 r2 => hg (.d d :: ds) k2 (u :: us) S2 H2 p2 (g.trans g2) I2 ⟨u, us, rfl, Rep.grow g2 _ _ r, r2⟩, hx'⟩
def isPen (ρ : Env) (i : Nat) {α : Type} (m : W α) : W α := match ρ[i]? with
  | some .pen => m
  | _ => stuck
theorem isPen_inv {ρ : Env} {i : Nat} {α : Type} {m : W α} {n : Nt} {P : α → Nt → Prop} {PX : Exc → Nt → Prop} (h : isPen ρ i m n P PX) : ρ[i]? = some .pen ∧ m n P PX := by
  unfold isPen at h
  cases e : ρ[i]? with
  | none => rw [e] at h; exact h.elim
  | some sv =>
    rw [e] at h
    cases sv with
    | pen => exact ⟨rfl, h⟩
    | _ => exact h.elim
theorem v_pen {x : Str} {pos : Pos} {es : List Expr} {gs : Env → W (List SV)} (i : Nat) (hs : AV G X Wx es gs) (hN : X.N[i]? = some x := by rfl) (hv : Vis X.env.scope x := by first | exact Or.inl rfl | exact Or.inr (Or.inl rfl) | exact Or.inr (Or.inr rfl)) (hd : (x == ("__debug__" : Str)) = false := by decide)
    (hcd : (x == ("__classdict__" : Str)) = false := by decide) (hp : starEach (.Name x pos :: es) X.env = (false, eval (.Name x pos) X.env) :: starEach es X.env := by rfl) : AV G X Wx (.Name x pos :: es) (fun ρ => isPen ρ i (bnd (gs ρ) fun xs => ret (.pen :: xs))) :=
  weakA (pa_cons (pe_var hN hv hd hcd) hs hp) fun σ H Q ⟨c, ρ, n, P, PX, I, q, hg, hx⟩ => by
    obtain ⟨e, q⟩ := isPen_inv q
    obtain ⟨p, e1, e2⟩ := I.slots i _ e
    exact ⟨.ref p.1, slot_some e2, c, ρ, n, fun ds k => P (.pen :: ds) k, PX, I, q, fun ds k2 us S2 H2 p2 g2 I2 r2 => hg (.pen :: ds) k2 (.ref p.1 :: us) S2 H2 p2 g2 I2 ⟨_, us, rfl, ⟨p, e1, rfl⟩, r2⟩, hx⟩
theorem kv_nil : KV G X Wx [] (fun _ => ret []) := ⟨fun pos pins s σ H Q I ⟨c, ρ, n, P, PX, I', q, hg, hx⟩ => pk_nil.run pos pins s σ H Q I (hg [] n [] c.S H q .refl I' rfl)⟩
theorem kv_cons {nm : Option Str} {e : Expr} {kpos : Pos} {kws : List Keyword} {g : Env → W D} {gs : Env → W (List SV)} (h : E G X Wx e g) (hs : KV G X Wx kws gs) : KV G X Wx (⟨nm, e, kpos⟩ :: kws) (fun ρ => bnd (g ρ) fun x => bnd (gs ρ) fun xs => ret (.d x :: xs)) :=
  ⟨fun pos pins s σ H Q I ⟨c, ρ, n, P, PX, I', q, hg, hx⟩ => (pk_cons h hs).run pos pins s σ H Q I (tE.bnd I' q hx fun d k u S' H' p g I2 hx' r =>
    ⟨c.to S', ρ, k, fun ds k => P (.d d :: ds) k, PX, I2, p, fun ds k2 us S2 H2 p2 g2 I3 r2 => hg (.d d :: ds) k2 (u :: us) S2 H2 p2 (g.trans g2) I3 ⟨u, us, rfl, Rep.grow g2 _ _ r, r2⟩, hx'⟩)⟩

/-- a call: one without the source of draws costs none -/
def callM (m : List SV → W D) (args : List SV) : W D :=
  if args.any (fun s => match s with | .pen => true | _ => false) then m args else fun n P PX => m args ⟨0, n.μ⟩ (fun d k => P d ⟨n.n, k.μ⟩) fun x k => PX x ⟨n.n, k.μ⟩
theorem ArgsOk.nopen {K : PySem.W.Frag} {S : Addr → Prop} {H : Hp} {pen : Option (Addr × Addr)} : ∀ {xs : List SV} {vs : List V}, xs.any (fun s => match s with | .pen => true | _ => false) = false → ArgsOk K S H pen xs vs → ArgsOk K S H none xs vs
  | [], _, _, h => h
  | x :: xs, _, e, h => by
    obtain ⟨v, ws, e1, r, q⟩ := h
    rw [List.any_cons, Bool.or_eq_false_iff] at e
    refine ⟨v, ws, e1, ?_, ArgsOk.nopen e.2 q⟩
    cases x with
    | pen => cases e.1
    | _ => exact r
/-- the caller's state behind a call -/
theorem SI.called {K : PySem.W.Frag} {c : C} {σ : L2.St} {ρ : Env} {H H' : Hp} {n k : Nt} {S' : Addr → Prop} {pen : Option (Addr × Addr)} (I : SI G K c σ H ρ n) (h : After G K c.S S' pen n H H' k) (hp : pen = c.pen ∨ (pen = none ∧ k.n = n.n)) : SI G K (c.to S') σ H' ρ k := by
  have keep : ∀ a o, H a = some o → ¬ G.pens c a → n.μ a = none → H' a = some o := fun a o e np nm => h.fr a o e (fun p ep => by
    rcases hp with z | z
    · exact ⟨fun q => np (.inl (.inl ⟨p, z ▸ ep, .inl q⟩)), fun q => np (.inl (.inl ⟨p, z ▸ ep, .inr q⟩))⟩
    · rw [z.1] at ep; cases ep) (fun q hq z => np (.inl (.inr ⟨q, hq, z⟩))) nm
  have nomu : ∀ a o, c.H0 a = some o → ¬ G.pens c a → n.μ a = none := fun a o e np => by
    cases q : n.μ a with
    | none => rfl
    | some nd =>
      rcases (I.mu a nd q).2.2.1 with z | z
      · exact absurd (.inr z) np
      · rw [e] at z; cases z
  refine ⟨I.len, fun i sv e => (I.slots i sv e).grow h.grow fun a ea ho => ?_, fun i sv a e ho es => ?_, I.apart, h.dom, fun a o e np => keep a o (I.fr a o e np) np (nomu a o e np), fun p e => ?_, fun a q => ?_, fun q e => ⟨(I.tab q e).1, h.tab q e⟩, fun a nd e => ?_, fun a q => ⟨h.mu0 a (I.mu0 a q).1, (I.mu0 a q).2⟩, h.mz⟩
  · have y := I.own i sv a e ho ea
    cases q : H a with
    | none => exact absurd q (I.own_there ⟨i, sv, e, ho, ea⟩)
    | some o => exact keep a o q (I.penOld y.2.1) y.2.2
  · have y := I.own i sv a e ho es
    refine ⟨fun z => (h.new a z).elim y.1 (I.own_there ⟨i, sv, e, ho, es⟩), y.2.1, ?_⟩
    cases q : k.μ a with
    | none => rfl
    | some nd => exact (h.mu a nd q).2.2.elim (fun z => absurd y.2.2 z) fun z => absurd z (I.own_there ⟨i, sv, e, ho, es⟩)
  · obtain ⟨h1, h2, h3, h4, h5⟩ := I.pen p e
    rcases hp with z | ⟨z, z2⟩
    · obtain ⟨k1, k2, k3⟩ := h.pen p (z ▸ e)
      exact ⟨k1, k2, k3, h4, h5⟩
    · obtain ⟨k1, k2⟩ := G.there h1
      have same : ∀ b, H b ≠ none → (∀ q ∈ G.tab, b ≠ q.1) → n.μ b = none → H' b = H b := fun b hb ht hn => by
        cases q : H b with
        | none => exact absurd q hb
        | some o => exact h.fr b o q (fun p' e' => by rw [z] at e'; cases e') ht hn
      have nt : ∀ b, (∃ xs, H b = some (.lst xs)) → ∀ q ∈ G.tab, b ≠ q.1 := fun b ⟨xs, e1⟩ q hq z => by
        obtain ⟨ps, e2, _⟩ := (I.tab q hq).2
        rw [← z, e1] at e2
        cases e2
      have pm : ∀ b, (b = p.1 ∨ b = p.2) → n.μ b = none := fun b hb => by
        cases q : n.μ b with
        | none => rfl
        | some nd => exact absurd (.inl ⟨p, e, hb⟩) (I.mu b nd q).2.2.2
      rw [z2]
      exact ⟨G.dep h1 (same _ k1 (nt _ (G.isL h1).1) (pm _ (.inl rfl))) (same _ k2 (nt _ (G.isL h1).2) (pm _ (.inr rfl))), fun q => (h.new _ q).elim h2 k1, fun q => (h.new _ q).elim h3 k2, h4, h5⟩
  · obtain ⟨h1, h2⟩ := I.no a q
    refine ⟨fun z => (h.new a z).elim h1 fun z => ?_, h2⟩
    have := I.freeOld z
    exact h2 this
  · obtain ⟨m1, m2, m3⟩ := h.mu a nd e
    refine ⟨m1, m2, ?_⟩
    rcases m3 with z | z
    · obtain ⟨nd0, e0⟩ := Option.ne_none_iff_exists'.mp z
      exact (I.mu a nd0 e0).2.2
    · refine ⟨.inr (I.freeOld z), fun w => ?_⟩
      rcases w with ⟨p, e2, w⟩ | ⟨q, e2, w⟩
      · obtain ⟨k1, k2⟩ := G.there (I.pen p e2).1
        exact w.elim (fun w => k1 (w ▸ z)) fun w => k2 (w ▸ z)
      · exact (I.tabN e2).2.2 (w ▸ z)
/-- the objects that are changed, for a callee -/
theorem SI.muOk {K : PySem.W.Frag} {c : C} {σ : L2.St} {ρ : Env} {H : Hp} {n : Nt} (I : SI G K c σ H ρ n) (pen : Option (Addr × Addr)) (hp : ∀ p, pen = some p → c.pen = some p) : MuOk G K c.S H pen n :=
  ⟨fun a nd e => ⟨(I.mu a nd e).1, (I.mu a nd e).2.1, fun p ep => ⟨fun z => (I.mu a nd e).2.2.2 (.inl ⟨p, hp p ep, .inl z⟩), fun z => (I.mu a nd e).2.2.2 (.inl ⟨p, hp p ep, .inr z⟩)⟩, fun q hq z => (I.mu a nd e).2.2.2 (.inr ⟨q, hq, z⟩)⟩, I.mz⟩
theorem call_core {c : C} {σ : L2.St} {ρ : Env} {H : Hp} {n : Nt} {P : D → Nt → Prop} {PX : Exc → Nt → Prop} {Q : VK} {m : List SV → W D} {args : List SV} {vs : List V} {ps : Nat} (I : SI G X.K c σ H ρ n) (hl : args.length = ps) (r : ArgsOk X.K c.S H c.pen args vs)
    (q : callM m args n P PX) (hg : Gl1 G X c σ ρ H P Q) (hx : OKx G X Wx c σ ρ H PX) : spM G X.K X.mg ps m vs H Q (WE Wx σ) := by
  unfold callM at q
  by_cases hp : args.any (fun s => match s with | .pen => true | _ => false) = true
  · rw [if_pos hp] at q
    refine ⟨c.S, c.pen, args, n, P, PX, hl, I.dom, fun p e => ?_, fun q e => ⟨(I.tabN e).1, (I.tab q e).2⟩, I.muOk c.pen fun _ h => h, r, q, fun d k v S' H' p h r => hg d k v S' H' p h.grow (I.called h (.inl rfl)) r, fun x k S' H' cls dd p h r => hx x k S' H' cls dd p h.grow (I.called h (.inl rfl)) r⟩
    obtain ⟨h1, h2, h3, _⟩ := I.pen p e
    exact ⟨h1, h2, h3⟩
  · rw [if_neg hp] at q
    have fix : ∀ {S' H' k}, After G X.K c.S S' none ⟨0, n.μ⟩ H H' k → After G X.K c.S S' none n H H' ⟨n.n, k.μ⟩ := fun h => ⟨h.grow, h.dom, h.new, h.fr, h.tab, (fun p e => nomatch e), h.mu, h.mu0, h.mz⟩
    exact ⟨c.S, none, args, ⟨0, n.μ⟩, _, _, hl, I.dom, fun p e => (nomatch e), fun q e => ⟨(I.tabN e).1, (I.tab q e).2⟩, I.muOk none (fun _ e => nomatch e), r.nopen (by simpa using hp), q, fun d k v S' H' p h r => hg d ⟨n.n, k.μ⟩ v S' H' p h.grow (I.called (fix h) (.inr ⟨rfl, rfl⟩)) r, fun x k S' H' cls dd p h r => hx x ⟨n.n, k.μ⟩ S' H' cls dd p h.grow (I.called (fix h) (.inr ⟨rfl, rfl⟩)) r⟩
def onB {α : Type} (b : Bool) (m : W α) : W α := match b with
  | true => m
  | false => stuck
def arity (n : Nat) (args : List SV) {α : Type} (m : W α) : W α := onB (Nat.beq args.length n) m
theorem arity_inv {n : Nat} {args : List SV} {α : Type} {m : W α} {k : Nt} {P : α → Nt → Prop} {PX : Exc → Nt → Prop} (h : arity n args m k P PX) : args.length = n ∧ m k P PX := by
  unfold arity at h
  cases e : Nat.beq args.length n with
  | true => rw [e] at h; exact ⟨Nat.eq_of_beq_eq_true e, h⟩
  | false => rw [e] at h; exact h.elim
/-- the callee runs -/
theorem run_G {k : Nat} {f : Addr} {fd : FuncData} {ps : List Str} {sp : Sp} {pins : List (Addr × Obj)} {σ : L2.St} {H : Hp} {s : Shared} {Q : VK} {a : Args} {us : List Value} {vs : List V} (F : FnG X.prog X.w X.K X.mg X.base k f fd ps sp) (hg : X.A.guards = some []) (hr : Room k X.A)
    (tk : Takes X Wx) (I : Inv X pins σ H s) (hb : BindsTo s fd a (ps.zip us)) (r : Vals vs us) (h : sp vs H Q (WE Wx σ)) : codeAny (model X.prog X.w) X.A (.call (.ref f) a) (fun r s' => match r with | .ok (.ret u) => EP X pins σ Q u s' | .ok _ => False | .error e => X.xe e s') s :=
  codeAny_mono (F.run X.A X.stack s H a us vs Q (WE Wx σ) hg hr I.env0 hb r h) fun r s' hq => by
    cases r with
    | error e => exact passAt tk σ pins H s e s' I hq
    | ok fl =>
      cases fl with
      | ret u => exact I.after hq
      | next => exact hq.elim
      | brk => exact hq.elim
      | cont => exact hq.elim
theorem run_call {k : Nat} {f : Addr} {fd : FuncData} {ps : List Str} {sp : Sp} {pins : List (Addr × Obj)} {σ : L2.St} {H : Hp} {s : Shared} {Q : VK} {us ws : List Value} {kw : List (Str × Value)} {vs : List V} (F : FnG X.prog X.w X.K X.mg X.base k f fd ps sp) (hg : X.A.guards = some []) (hr : Room k X.A)
    (tk : Takes X Wx) (I : Inv X pins σ H s) (hb : BindsTo s fd ⟨us, kw⟩ (ps.zip ws)) (r : Vals vs ws) (h : sp vs H Q (WE Wx σ)) : wpAny (model X.prog X.w) X.A (call (.ref f) us kw) (EP X pins σ Q) X.xe s :=
  wpAny_call (codeAny_mono (run_G F hg hr tk I hb r h) fun r s' hq => by
    cases r with
    | error e => exact hq
    | ok fl => cases fl <;> exact hq)
/-- what a def is known by: its address, promise, how arguments come to its parameters -/
structure Kn (G : PenK) (X : Cx) (k : Nat) (x : Str) (f : Addr) (fd : FuncData) (ps : List Str) (m : List SV → W D) : Prop where
  F : FnG X.prog X.w X.K X.mg X.base k f fd ps (spM G X.K X.mg ps.length m)
  mg : X.mg x = some (.ref f)
  kp : PySem.W.keepIn X.K (.ref f) = true
/-- f(a, b) -/
theorem e_call {k : Nat} {x : Str} {f : Addr} {fd : FuncData} {ps : List Str} {m : List SV → W D} {p pos : Pos} {e : Expr} {es : List Expr} {gs : Env → W (List SV)} (n : Kn G X k x f fd ps m) (hgd : X.A.guards = some []) (hr : Room k X.A) (tk : Takes X Wx) (hb : Binds X.K fd ps []) (ha : AV G X Wx (e :: es) gs)
    (hg : Gl X x := by rfl) (hdb : (x == ("__debug__" : Str)) = false := by decide) (he : starEach (e :: es) X.env = (false, eval e X.env) :: starEach es X.env := by rfl) (hpl : (backTo pos (starEach es X.env)).any (·.1) = false := by rfl) :
    E G X Wx (.Call (.Name x p) (e :: es) [] pos) (fun ρ => bnd (gs ρ) fun args => arity ps.length args (callM m args)) :=
  ⟨fun pins s σ H Q I ⟨c, ρ, k0, P, PX, I', q, hgl, hx⟩ => by
    refine wpAny_Call_Name_kw (ld_glob I hg n.mg ?_ hdb)
    refine PySem.W.callWith_K (h₀ := X.base) I.ok.mod.kin n.kp (thn (ha.run pos pins s σ H (fun vs H' => vs.length = ps.length ∧ spM G X.K X.mg ps.length m vs H' Q (WE Wx σ)) I ⟨c, ρ, k0, fun args k => arity ps.length args (callM m args) k P PX, PX, I', q, fun args k vs S' H' p g I2 r =>
      ⟨r.len.trans (arity_inv p).1, call_core I2 (arity_inv p).1 r (arity_inv p).2 (hgl.grow g) (hx.grow g)⟩, hx⟩) fun us s1 ⟨vs, H1, I1, r1, q1, q2⟩ => ⟨I1.kIn, ?_⟩) he hpl
    have hb1 := hb s1 us I1.kIn (by rw [List.append_nil, ← r1.length]; exact q1)
    rw [List.append_nil] at hb1
    exact run_call n.F hgd hr tk I1 hb1 r1 q2⟩
/-- f() -/
theorem e_call0 {k : Nat} {x : Str} {f : Addr} {fd : FuncData} {m : List SV → W D} {p pos : Pos} (n : Kn G X k x f fd [] m) (hgd : X.A.guards = some []) (hr : Room k X.A) (tk : Takes X Wx) (hb : Binds X.K fd [] [])
    (hg : Gl X x := by rfl) (hdb : (x == ("__debug__" : Str)) = false := by decide) : E G X Wx (.Call (.Name x p) [] [] pos) (fun ρ => callM m []) :=
  ⟨fun pins s σ H Q I ⟨c, ρ, k0, P, PX, I', q, hgl, hx⟩ => by
    refine wpAny_Call_Name_kw (ld_glob I hg n.mg ?_ hdb)
    exact PySem.W.callWith_K0 I.kIn n.kp (run_call (us := []) (ws := []) n.F hgd hr tk I (hb s [] I.kIn rfl) (Paired.nil) (call_core (args := []) (vs := []) (ps := 0) I' rfl rfl q hgl hx))⟩
/-- how a call by names puts the values: for each parameter the place of its value among those given -/
def pick {α : Type} (order : List Nat) (l : List α) : List α := order.filterMap fun i => l[i]?
theorem pick_vals {order : List Nat} {vs : List V} {us : List Value} (r : Vals vs us) : Vals (pick order vs) (pick order us) := by
  unfold pick
  induction order with
  | nil => exact .nil
  | cons i o ih =>
    rw [List.filterMap_cons, List.filterMap_cons]
    cases e : vs[i]? with
    | none =>
      have e2 : us[i]? = none := r.none_of e
      rw [e2]
      exact ih
    | some v =>
      obtain ⟨u, e2, q⟩ := r.get e
      rw [e2]
      exact .cons q ih
theorem pick_args {K : PySem.W.Frag} {S : Addr → Prop} {H : Hp} {pen : Option (Addr × Addr)} {order : List Nat} {xs : List SV} {vs : List V} (r : ArgsOk K S H pen xs vs) : ArgsOk K S H pen (pick order xs) (pick order vs) := by
  unfold pick
  induction order with
  | nil => exact rfl
  | cons i o ih =>
    rw [List.filterMap_cons, List.filterMap_cons]
    cases e : xs[i]? with
    | none =>
      have e2 : vs[i]? = none := List.getElem?_eq_none (by rw [r.len]; exact List.getElem?_eq_none_iff.mp e)
      rw [e2]
      exact ih
    | some x =>
      obtain ⟨v, e2, q⟩ := r.get e
      rw [e2]
      exact ⟨v, _, rfl, q, ih⟩
def KBd (K : PySem.W.Frag) (fd : FuncData) (ps : List Str) (n : Nat) (ks : List Str) (order : List Nat) : Prop :=
  ∀ (s : Shared) (us ws : List Value), K.In s.heap → us.length = n → ws.length = ks.length → BindsTo s fd ⟨us, ks.zip ws⟩ (ps.zip (pick order (us ++ ws)))
/-- f(k = v, ..) -/
theorem e_callK0 {k : Nat} {x : Str} {f : Addr} {fd : FuncData} {ps ks : List Str} {order : List Nat} {m : List SV → W D} {p pos : Pos} {kws : List Keyword} {gs : Env → W (List SV)} (n : Kn G X k x f fd ps m) (hgd : X.A.guards = some []) (hr : Room k X.A) (tk : Takes X Wx) (hb : KBd X.K fd ps 0 ks order) (ha : KV G X Wx kws gs)
    (hall : (backToKw pos (keywordEach kws X.env)).all (·.1.isSome) = true := by rfl) (hks : (backToKw pos (keywordEach kws X.env)).filterMap (·.1) = ks := by rfl) (hg : Gl X x := by rfl) (hdb : (x == ("__debug__" : Str)) = false := by decide)
    (hpl : ((backTo pos (starEach [] X.env)).any (·.1) || (backToKw pos (keywordEach kws X.env)).any (·.1.isNone)) = false := by rfl) :
    E G X Wx (.Call (.Name x p) [] kws pos) (fun ρ => bnd (gs ρ) fun args => arity ks.length args (arity ps.length (pick order args) (callM m (pick order args)))) :=
  ⟨fun pins s σ H Q I ⟨c, ρ, k0, P, PX, I', q, hgl, hx⟩ => by
    refine wpAny_Call_Name_kw (ld_glob I hg n.mg ?_ hdb)
    refine PySem.W.callWith_KW0 (h₀ := X.base) I.ok.mod.kin n.kp hall (thn (ha.run pos pins s σ H (fun vs H' => vs.length = ks.length ∧ spM G X.K X.mg ps.length m (pick order vs) H' Q (WE Wx σ)) I ⟨c, ρ, k0, fun args k => arity ks.length args (arity ps.length (pick order args) (callM m (pick order args))) k P PX, PX, I', q, fun args k vs S' H' p g I2 r =>
      ⟨r.len.trans (arity_inv p).1, call_core I2 (arity_inv (arity_inv p).2).1 (pick_args r) (arity_inv (arity_inv p).2).2 (hgl.grow g) (hx.grow g)⟩, hx⟩) fun us s1 ⟨vs, H1, I1, r1, q1, q2⟩ => ⟨I1.kIn, ?_⟩) hpl
    rw [hks]
    exact run_call n.F hgd hr tk I1 (hb s1 [] us I1.kIn rfl (by rw [← r1.length]; exact q1)) (pick_vals r1) q2⟩
/-- f(a, k = v, ..) -/
theorem e_callK {k : Nat} {x : Str} {f : Addr} {fd : FuncData} {ps ks : List Str} {order : List Nat} {m : List SV → W D} {p pos : Pos} {e : Expr} {es : List Expr} {kws : List Keyword} {gp gs : Env → W (List SV)} (n : Kn G X k x f fd ps m) (hgd : X.A.guards = some []) (hr : Room k X.A) (tk : Takes X Wx) (hb : KBd X.K fd ps (e :: es).length ks order) (hp : AV G X Wx (e :: es) gp) (ha : KV G X Wx kws gs)
    (hall : (backToKw pos (keywordEach kws X.env)).all (·.1.isSome) = true := by rfl) (hks : (backToKw pos (keywordEach kws X.env)).filterMap (·.1) = ks := by rfl) (hg : Gl X x := by rfl) (hdb : (x == ("__debug__" : Str)) = false := by decide) (he : starEach (e :: es) X.env = (false, eval e X.env) :: starEach es X.env := by rfl)
    (hpl : ((backTo pos (starEach (e :: es) X.env)).any (·.1) || (backToKw pos (keywordEach kws X.env)).any (·.1.isNone)) = false := by rfl) :
    E G X Wx (.Call (.Name x p) (e :: es) kws pos) (fun ρ => bnd (gp ρ) fun as => bnd (gs ρ) fun bs => arity (e :: es).length as (arity ks.length bs (arity ps.length (pick order (as ++ bs)) (callM m (pick order (as ++ bs)))))) :=
  ⟨fun pins s σ H Q I ⟨c, ρ, k0, P, PX, I', q, hgl, hx⟩ => by
    refine wpAny_Call_Name_kw (ld_glob I hg n.mg ?_ hdb)
    refine PySem.W.callWith_KW (h₀ := X.base) I.ok.mod.kin n.kp hall (thn (hp.run pos pins s σ H (fun vs H' => tVr G X Wx gs σ H' fun zs H2 => vs.length = (e :: es).length ∧ zs.length = ks.length ∧ spM G X.K X.mg ps.length m (pick order (vs ++ zs)) H2 Q (WE Wx σ)) I ⟨c, ρ, k0, fun as k => bnd (gs ρ) (fun bs => arity (e :: es).length as (arity ks.length bs (arity ps.length (pick order (as ++ bs)) (callM m (pick order (as ++ bs)))))) k P PX, PX, I', q, fun as k vs S' H' p g I2 r =>
      ⟨c.to S', ρ, k, _, PX, I2, p, fun bs k2 zs S2 H2 p2 g2 I3 r2 => ⟨r.len.trans (arity_inv p2).1, r2.len.trans (arity_inv (arity_inv p2).2).1, call_core I3 (arity_inv (arity_inv (arity_inv p2).2).2).1 (pick_args (ArgsOk.app (r.grow g2) r2)) (arity_inv (arity_inv (arity_inv p2).2).2).2 (hgl.grow (g.trans g2)) (hx.grow (g.trans g2))⟩, hx.grow g⟩, hx⟩) fun us s1 ⟨vs, H1, I1, r1, q1⟩ =>
      thn (ha.run pos pins s1 σ H1 _ I1 q1) fun ws s2 ⟨zs, H2, I2, rz, q2, q3, q4⟩ => ⟨I2.kIn, ?_⟩) hpl he
    rw [hks]
    exact run_call n.F hgd hr tk I2 (hb s2 us ws I2.kIn (by rw [← r1.length]; exact q2) (by rw [← rz.length]; exact q3)) (pick_vals (r1.append rz)) q4⟩
end
end PL

/-! The layer: built-ins over data. -/
namespace PL
open PySem PySem.Spec L2

/-! ### kinds -/
inductive Ty where
  | int | bool | str | tup | lst | dic
  deriving DecidableEq
def Ty.nm : Ty → String
  | .int => "int" | .bool => "bool" | .str => "str" | .tup => "tuple" | .lst => "list" | .dic => "dict"
def D.ty : D → String
  | .non => "NoneType" | .bl _ => "bool" | .int _ => "int" | .str _ => "str" | .lst _ => "list" | .tup _ => "tuple" | .dic _ => "dict"
def isT : Ty → D → Bool
  | .int, .int _ => true
  | .int, .bl _ => true
  | .bool, .bl _ => true
  | .str, .str _ => true
  | .tup, .tup _ => true
  | .lst, .lst _ => true
  | .dic, .dic _ => true
  | _, _ => false
def isA : List Ty → D → Bool
  | [], _ => false
  | t :: ts, d => isT t d || isA ts d
theorem kit_D {K : PySem.W.Frag} (t : Ty) (d : D) : PySem.W.kitOne K (.type d.ty) (.type t.nm) = some (isT t d) := by
  cases d <;> cases t <;> refine kit_ty ?_ <;> simp only [D.ty, Ty.nm, isT] <;> decide +kernel
theorem kit_A {K : PySem.W.Frag} (d : D) : ∀ ts : List Ty, PySem.W.kitAny K (.type d.ty) (ts.map fun t => .type t.nm) = some (isA ts d)
  | [] => kitAny_nil
  | t :: ts => kitAny_cons (kit_D t d) (fun h => by show _ = some (isT t d || isA ts d); rw [h, Bool.false_or]; exact kit_A d ts) fun h => by show (isT t d || isA ts d) = true; rw [h, Bool.true_or]

section
variable {G : PenK} {X : Cx} {Wx : WX}
theorem Rep.tyX {K : PySem.W.Frag} {S : Addr → Prop} {H : Hp} {d : D} {v : V} (r : Rep K S H d v) : TyX K H v (.type d.ty) := by
  cases d with
  | non => cases r; exact .base .non
  | bl b => cases r; exact .base (.bl b)
  | int i => cases r; exact .base (.int i)
  | str x => obtain ⟨rfl, _⟩ := r; exact .base (.str x)
  | lst xs => obtain ⟨a, vs, rfl, r1, _⟩ := r; exact .base (.lst r1.2)
  | tup xs =>
    obtain ⟨a, vs, rfl, r1, _⟩ := r
    rcases r1 with ⟨_, o, h, _⟩ | ⟨o, its, n, h1, h2, _⟩
    · exact .fTuple h
    · exact .kTuple h1 h2
  | dic kvs =>
    obtain ⟨a, vs, rfl, r1, _⟩ := r
    rcases r1.2 with h | ⟨o, h⟩
    · exact .base (.dK h)
    · exact .fDict h
theorem two_a {e e2 : Expr} {te : TE} {t2 : TE} (h : PE X e te) (h2 : PE X e2 t2) (hp : starEach [e, e2] X.env = (false, eval e X.env) :: starEach [e2] X.env := by rfl) (hp2 : starEach [e2] X.env = (false, eval e2 X.env) :: starEach [] X.env := by rfl) :
    PA X [e, e2] (tCons te (tCons t2 tNil)) := pa_cons h (pa_cons h2 pa_nil hp2) hp
/-- isinstance(e, T) -/
theorem e_isi {x : Str} {p px pos : Pos} {e : Expr} {g : Env → W D} (t : Ty) (hm : X.mg "isinstance" = none) (hmx : X.mg x = none) (hbx : bootBuiltins x = some (.type t.nm)) (h : E G X Wx e g)
    (hg : Gl X "isinstance" := by rfl) (hgx : Gl X x := by rfl) (hn : x ≠ "__name__" := by decide) (hdb : (x == ("__debug__" : Str)) = false := by decide) (he : starEach [e, .Name x px] X.env = (false, eval e X.env) :: starEach [.Name x px] X.env := by rfl)
    (he2 : starEach [.Name x px] X.env = (false, eval (.Name x px) X.env) :: starEach [] X.env := by rfl) (hpl : (backTo pos (starEach [.Name x px] X.env)).any (·.1) = false := by rfl) :
    E G X Wx (.Call (.Name "isinstance" p) [e, .Name x px] [] pos) (fun ρ => bnd (g ρ) fun d => ret (.bl (isT t d))) :=
  weakE (pe_callB call_isi hg hm PyProof.Rows.boot_isinstance (two_a h (pe_bltn (v := .ty t.nm) hgx hmx hbx rfl hn hdb) he he2) (by decide) (by decide) he hpl) fun σ H Q ⟨c, ρ, n, P, PX, I, q, hg, hx⟩ => tE.bnd I q hx fun d k u S' H' p g I' hx' r =>
    ⟨u, .ty t.nm, _, _, isT t d, rfl, .ty _, r.tyX, kit_D t d, hg (.bl (isT t d)) k _ S' H' p g I' rfl⟩
/-- a display of built-in classes -/
def Cl (X : Cx) (es : List Expr) (ts : List Ty) : Prop := PA X es (fun _ H Q => Q (ts.map fun t => .ty t.nm) H)
theorem cl_nil : Cl X [] [] := pa_nil
theorem cl_cons {x : Str} {px : Pos} {es : List Expr} {ts : List Ty} (t : Ty) (hmx : X.mg x = none) (hbx : bootBuiltins x = some (.type t.nm)) (h : Cl X es ts) (hgx : Gl X x := by rfl) (hn : x ≠ "__name__" := by decide) (hdb : (x == ("__debug__" : Str)) = false := by decide)
    (hp : starEach (.Name x px :: es) X.env = (false, eval (.Name x px) X.env) :: starEach es X.env := by rfl) : Cl X (.Name x px :: es) (t :: ts) :=
  weakA (pa_cons (pe_bltn (v := .ty t.nm) hgx hmx hbx rfl hn hdb) h hp) fun σ H Q q => q
theorem cls_all : ∀ ts : List Ty, Paired ClsV (ts.map fun t => V.ty t.nm) (ts.map fun t => Value.type t.nm)
  | [] => .nil
  | t :: ts => .cons (.ty _) (cls_all ts)
/-- isinstance(e, (T, U)) -/
theorem e_isis {p pt pos : Pos} {k0 : Nat} {e : Expr} {es : List Expr} {ts : List Ty} {g : Env → W D} (hm : X.mg "isinstance" = none) (hts : Cl X es ts) (h : E G X Wx e g) (hz : ts.length ≤ sizeLine := by decide)
    (hg : Gl X "isinstance" := by rfl) (he : starEach [e, .Tuple es k0 pt] X.env = (false, eval e X.env) :: starEach [.Tuple es k0 pt] X.env := by rfl)
    (he2 : starEach [.Tuple es k0 pt] X.env = (false, eval (.Tuple es k0 pt) X.env) :: starEach [] X.env := by rfl) (hpl : (backTo pos (starEach [.Tuple es k0 pt] X.env)).any (·.1) = false := by rfl) :
    E G X Wx (.Call (.Name "isinstance" p) [e, .Tuple es k0 pt] [] pos) (fun ρ => bnd (g ρ) fun d => ret (.bl (isA ts d))) :=
  weakE (pe_callB call_isiT hg hm PyProof.Rows.boot_isinstance (two_a h (pe_tup hts) he he2) (by decide) (by decide) he hpl) fun σ H Q ⟨c, ρ, n, P, PX, I, q, hg, hx⟩ => tE.bnd I q hx fun d k u S' H' p g I' hx' r => by
    refine ⟨by rw [List.length_map]; exact hz, fun a ha => ?_⟩
    obtain ⟨I2, g2⟩ := I'.laid (o := .tup (ts.map fun t => .ty t.nm)) ha
    refine ⟨u, a, ts.map fun t => .ty t.nm, _, ts.map fun t => .type t.nm, isA ts d, rfl, upd_same, ?_, (Rep.grow g2 _ _ r).tyX, kit_A d ts, hg (.bl (isA ts d)) k _ _ _ p (g.trans g2) I2 rfl⟩
    exact cls_all ts

/-! ### one argument -/
theorem e_b1 {x : Str} {p pos : Pos} {id : String} {e : Expr} {r : V → Hp → VK → Prop} {r' : List V → Hp → VK → Prop} {g : Env → W D} {f : D → W D} (hm : X.mg x = none) (hv : bootBuiltins x = some (.builtin id)) (o : CallR X (.builtin id) r') (v : V1 G X Wx f r) (hr : ∀ x H Q, r x H Q → r' [x] H Q) (h : E G X Wx e g)
    (hg : Gl X x) (hn : x ≠ "__name__") (hdb : (x == ("__debug__" : Str)) = false) (he : starEach [e] X.env = (false, eval e X.env) :: starEach [] X.env) (hpl : (backTo pos (starEach [] X.env)).any (·.1) = false) : E G X Wx (.Call (.Name x p) [e] [] pos) (fun ρ => bnd (g ρ) f) :=
  e_callB hm hv o (va_one v hr) (a_cons h a_nil he) hg hn hdb he hpl
theorem e_t1 {x : Str} {p pos : Pos} {T : String} {e : Expr} {r : V → Hp → VK → Prop} {r' : List V → Hp → VK → Prop} {g : Env → W D} {f : D → W D} (hm : X.mg x = none) (hv : bootBuiltins x = some (.type T)) (o : CallR X (.type T) r') (v : V1 G X Wx f r) (hr : ∀ x H Q, r x H Q → r' [x] H Q) (h : E G X Wx e g)
    (hg : Gl X x) (hn : x ≠ "__name__") (hdb : (x == ("__debug__" : Str)) = false) (he : starEach [e] X.env = (false, eval e X.env) :: starEach [] X.env) (hpl : (backTo pos (starEach [] X.env)).any (·.1) = false) : E G X Wx (.Call (.Name x p) [e] [] pos) (fun ρ => bnd (g ρ) f) :=
  e_callT hm hv o (va_one v hr) (a_cons h a_nil he) hg hn hdb he hpl
def V1O (G : PenK) (X : Cx) (Wx : WX) (h : D → W (List D)) (r : V → Hp → VK → Prop) : Prop :=
  ∀ c σ ρ H n P PX d v Q, SI G X.K c σ H ρ n → Rep X.K c.S H d v → h d n P PX → GlO G X c σ ρ H P Q → OKx G X Wx c σ ρ H PX → r v H Q
theorem o_t1 {x : Str} {p pos : Pos} {T : String} {e : Expr} {r : V → Hp → VK → Prop} {r' : List V → Hp → VK → Prop} {g : Env → W D} {f : D → W (List D)} (hm : X.mg x = none) (hv : bootBuiltins x = some (.type T)) (o : CallR X (.type T) r') (v : V1O G X Wx f r) (hr : ∀ x H Q, r x H Q → r' [x] H Q) (h : E G X Wx e g)
    (hg : Gl X x) (hn : x ≠ "__name__") (hdb : (x == ("__debug__" : Str)) = false) (he : starEach [e] X.env = (false, eval e X.env) :: starEach [] X.env) (hpl : (backTo pos (starEach [] X.env)).any (·.1) = false) : EO G X Wx (.Call (.Name x p) [e] [] pos) (fun ρ => bnd (g ρ) f) :=
  weakE (pe_callTy o hg hm hv (a_cons h a_nil he) hn hdb he hpl) fun σ H Q ⟨c, ρ, n, P, PX, I, q, hg, hx⟩ => tAr.bnd (f := fun ds => match ds with | [d] => f d | _ => stuck) I q hx fun ds k vs S' H' p g I' hx' rs => by
    cases ds with
    | nil => exact p.elim
    | cons d ds =>
      cases ds with
      | cons _ _ => exact p.elim
      | nil =>
        obtain ⟨u, rfl, r1⟩ := rs.one_inv
        exact hr u H' Q (v _ σ ρ H' k P PX d u Q I' r1 p (hg.grow g) hx')
theorem e_len' {p pos : Pos} {e : Expr} {g : Env → W D} (hm : X.mg "len" = none) (h : E G X Wx e g) (hg : Gl X "len" := by rfl) (he : starEach [e] X.env = (false, eval e X.env) :: starEach [] X.env := by rfl) :
    E G X Wx (.Call (.Name "len" p) [e] [] pos) (fun ρ => bnd (g ρ) lenD) := e_len hm h hg he
/-- list(e) -/
theorem o_list {p pos : Pos} {e : Expr} {g : Env → W D} (hm : X.mg "list" = none) (h : E G X Wx e g) (hg : Gl X "list" := by rfl) (he : starEach [e] X.env = (false, eval e X.env) :: starEach [] X.env := by rfl) :
    EO G X Wx (.Call (.Name "list" p) [e] [] pos) (fun ρ => bnd (g ρ) items) :=
  o_t1 hm PyProof.Rows.boot_list call_list_of (r := fun x H Q => ∃ p ys, x = .ref p ∧ (SqL X.K H p ys ∨ SqT X.K H p ys) ∧ ∀ l, H l = none → Q (.ref l) (upd H l (.lst ys))) (by
    intro c σ ρ H n P PX d v Q I r q hg hx
    cases d with
    | lst xs => obtain ⟨a, vs, rfl, r1, z, q1⟩ := r; exact ⟨a, vs, rfl, .inl r1.sq, fun l hl => hg.new q I hl z q1⟩
    | tup xs => obtain ⟨a, vs, rfl, r1, z, q1⟩ := r; exact ⟨a, vs, rfl, .inr r1.sq, fun l hl => hg.new q I hl z q1⟩
    | _ => exact q.elim) (fun x H Q ⟨p, ys, e, h⟩ => ⟨p, ys, by rw [e], h⟩) h hg (by decide) (by decide) he (by rfl)
def tupD : D → W D
  | .lst xs => ret (.tup xs)
  | .tup xs => ret (.tup xs)
  | _ => stuck
/-- tuple(e) -/
theorem e_tuple {p pos : Pos} {e : Expr} {g : Env → W D} (hm : X.mg "tuple" = none) (h : E G X Wx e g) (hg : Gl X "tuple" := by rfl) (he : starEach [e] X.env = (false, eval e X.env) :: starEach [] X.env := by rfl) :
    E G X Wx (.Call (.Name "tuple" p) [e] [] pos) (fun ρ => bnd (g ρ) tupD) :=
  e_t1 hm PyProof.Rows.boot_tuple call_tupleZ (r := fun x H Q => ∃ p ys, x = .ref p ∧ ((SqL X.K H p ys ∧ NewT H ys Q) ∨ (SqT X.K H p ys ∧ Q (.ref p) H))) (by
    intro c σ ρ H n P PX d v Q I r q hg hx
    cases d with
    | lst xs => obtain ⟨a, vs, rfl, r1, z, q1⟩ := r; exact ⟨a, vs, rfl, .inl ⟨r1.sq, fun l o hl hd => hg.new q I hl fun g2 => ⟨l, vs, rfl, .inl ⟨.inr rfl, o, upd_same, hd⟩, z, Reps.grow g2 _ _ q1⟩⟩⟩
    | tup xs => obtain ⟨a, vs, rfl, r1, z, q1⟩ := id r; exact ⟨a, vs, rfl, .inr ⟨r1.sq, hg.at q I r⟩⟩
    | _ => exact q.elim) (fun x H Q ⟨p, ys, e, h⟩ => ⟨p, ys, by rw [e], h⟩) h hg (by decide) (by decide) he (by rfl)
def intD : D → W D
  | .int i => ret (.int i)
  | .bl b => ret (.int (if b then 1 else 0))
  | _ => stuck
theorem e_toint {p pos : Pos} {e : Expr} {g : Env → W D} (hm : X.mg "int" = none) (h : E G X Wx e g) (hg : Gl X "int" := by rfl) (he : starEach [e] X.env = (false, eval e X.env) :: starEach [] X.env := by rfl) :
    E G X Wx (.Call (.Name "int" p) [e] [] pos) (fun ρ => bnd (g ρ) intD) :=
  e_t1 hm PyProof.Rows.boot_int call_int1 (r := fun x H Q => (∃ i, x = .int i ∧ Q (.int i) H) ∨ ∃ k, x = .bl k ∧ Q (.int (if k then 1 else 0)) H) (by
    intro c σ ρ H n P PX d v Q I r q hg hx
    cases d with
    | int i => cases r; exact .inl ⟨i, rfl, hg.at (d := .int i) q I rfl⟩
    | bl b => cases r; exact .inr ⟨b, rfl, hg.at (d := .int (if b then 1 else 0)) q I rfl⟩
    | _ => exact q.elim) (fun x H Q h => h.elim (fun ⟨i, e, h⟩ => .inl ⟨i, by rw [e], h⟩) fun ⟨i, e, h⟩ => .inr ⟨i, by rw [e], h⟩) h hg (by decide) (by decide) he (by rfl)
def absD : D → W D
  | .int i => ret (.int (if i < 0 then -i else i))
  | _ => stuck
theorem e_abs {p pos : Pos} {e : Expr} {g : Env → W D} (hm : X.mg "abs" = none) (h : E G X Wx e g) (hg : Gl X "abs" := by rfl) (he : starEach [e] X.env = (false, eval e X.env) :: starEach [] X.env := by rfl) :
    E G X Wx (.Call (.Name "abs" p) [e] [] pos) (fun ρ => bnd (g ρ) absD) :=
  e_b1 hm PyProof.Rows.boot_abs call_abs (r := fun x H Q => ∃ i, x = .int i ∧ Q (.int (if i < 0 then -i else i)) H) (by
    intro c σ ρ H n P PX d v Q I r q hg hx
    cases d with
    | int i => cases r; exact ⟨i, rfl, hg.at (d := .int (if i < 0 then -i else i)) q I rfl⟩
    | _ => exact q.elim) (fun x H Q ⟨i, e, h⟩ => ⟨i, by rw [e], h⟩) h hg (by decide) (by decide) he (by rfl)
def bls : List D → Option (List Bool)
  | [] => some []
  | .bl b :: xs => (bls xs).map (b :: ·)
  | _ :: _ => none
theorem bls_vals {K : PySem.W.Frag} {S : Addr → Prop} {H : Hp} : ∀ {xs : List D} {bs : List Bool} {vs : List V}, bls xs = some bs → Reps K S H xs vs → vs = bs.map V.bl
  | [], bs, vs, h, r => by
    cases h
    exact r
  | x :: xs, bs, vs, h, r => by
    obtain ⟨v, ws, rfl, r1, r2⟩ := r
    cases x with
    | bl b =>
      obtain ⟨cs, e1, e2⟩ := Option.map_eq_some_iff.mp h
      cases e2
      cases r1
      rw [bls_vals e1 r2]
      rfl
    | _ => cases h
def allD : D → W D
  | .lst xs => match bls xs with
    | some bs => ret (.bl (bs.all id))
    | none => stuck
  | _ => stuck
def anyD : D → W D
  | .lst xs => match bls xs with
    | some bs => ret (.bl (bs.any id))
    | none => stuck
  | _ => stuck
theorem e_all {p pos : Pos} {e : Expr} {g : Env → W D} (hc : X.calm = true) (hm : X.mg "all" = none) (h : E G X Wx e g) (hg : Gl X "all" := by rfl) (he : starEach [e] X.env = (false, eval e X.env) :: starEach [] X.env := by rfl) :
    E G X Wx (.Call (.Name "all" p) [e] [] pos) (fun ρ => bnd (g ρ) allD) :=
  e_b1 hm PyProof.Rows.boot_all (cr_all hc) (r := fun x H Q => ∃ a bs, x = V.ref a ∧ SqL X.K H a (bs.map V.bl) ∧ Q (.bl (bs.all id)) H) (by
    intro c σ ρ H n P PX d v Q I r q hg hx
    cases d with
    | lst xs =>
      obtain ⟨a, vs, rfl, r1, z, q1⟩ := r
      have q : (match bls xs with | some bs => ret (.bl (bs.all id)) | none => stuck : W D) n P PX := q
      cases e : bls xs with
      | none => rw [e] at q; exact q.elim
      | some bs =>
        rw [e] at q
        have e2 := bls_vals e q1
        rw [e2] at r1
        exact ⟨a, bs, rfl, r1.sq, hg.at (d := .bl (bs.all id)) q I rfl⟩
    | _ => exact q.elim) (fun x H Q ⟨a, bs, e, h⟩ => ⟨a, bs, by rw [e], h⟩) h hg (by decide) (by decide) he (by rfl)
/-! ### in -/
def inFlat (neg : Bool) (x y : D) : W D := match y with
  | .lst ys => grd (x.sc = true ∧ ys.all D.sc = true) (ret (.bl (if neg then !(ys.any fun z => scEq z x) else ys.any fun z => scEq z x)))
  | .tup ys => grd (x.sc = true ∧ ys.all D.sc = true) (ret (.bl (if neg then !(ys.any fun z => scEq z x) else ys.any fun z => scEq z x)))
  | _ => stuck
theorem Rep.flat {K : PySem.W.Frag} {S : Addr → Prop} {H : Hp} {d : D} {v : V} (r : Rep K S H d v) (h : d.sc = true) : flatV v = true := by
  cases d with
  | non => cases r; rfl
  | bl _ => cases r; rfl
  | int _ => cases r; rfl
  | str _ => obtain ⟨rfl, _⟩ := r; rfl
  | _ => cases h
theorem Rep.eqs {K : PySem.W.Frag} {S : Addr → Prop} {H : Hp} {d e : D} {v w : V} (r : Rep K S H d v) (q : Rep K S H e w) (h : d.sc = true) (h2 : e.sc = true) : eqV v w = scEq d e := by
  cases d with
  | non => cases r; cases e with
    | non => cases q; rfl
    | bl _ => cases q; rfl
    | int _ => cases q; rfl
    | str _ => obtain ⟨rfl, _⟩ := q; rfl
    | _ => cases h2
  | bl _ => cases r; cases e with
    | non => cases q; rfl
    | bl _ => cases q; rfl
    | int _ => cases q; rfl
    | str _ => obtain ⟨rfl, _⟩ := q; rfl
    | _ => cases h2
  | int _ => cases r; cases e with
    | non => cases q; rfl
    | bl _ => cases q; rfl
    | int _ => cases q; rfl
    | str _ => obtain ⟨rfl, _⟩ := q; rfl
    | _ => cases h2
  | str _ => obtain ⟨rfl, _⟩ := r; cases e with
    | non => cases q; rfl
    | bl _ => cases q; rfl
    | int _ => cases q; rfl
    | str _ => obtain ⟨rfl, _⟩ := q; rfl
    | _ => cases h2
  | _ => cases h
theorem Reps.flat {K : PySem.W.Frag} {S : Addr → Prop} {H : Hp} {x : D} {v : V} (rx : Rep K S H x v) (hx : x.sc = true) : ∀ {ys : List D} {vs : List V}, Reps K S H ys vs → ys.all D.sc = true → vs.all flatV = true ∧ inV v vs = ys.any fun z => scEq z x
  | [], _, h, _ => by
    have e : _ = [] := h
    rw [e]
    exact ⟨rfl, rfl⟩
  | y :: ys, _, h, hs => by
    obtain ⟨w, ws, rfl, r1, r2⟩ := h
    rw [List.all_cons, Bool.and_eq_true] at hs
    obtain ⟨h1, h2⟩ := Reps.flat rx hx r2 hs.2
    refine ⟨by rw [List.all_cons, r1.flat hs.1, h1]; rfl, ?_⟩
    unfold inV at *
    rw [List.any_cons, List.any_cons, r1.eqs rx hs.1 hx, h2]
theorem v2_in (neg : Bool) : V2 G X Wx (inFlat neg) (rIn X.K neg) := by
  intro c σ ρ H n P PX d e v w Q I rd re q hg hx
  cases e with
  | lst ys =>
    obtain ⟨a, vs, rfl, r1, z, q1⟩ := re
    obtain ⟨⟨h1, h2⟩, q⟩ := q
    obtain ⟨h3, h4⟩ := Reps.flat rd h1 q1 h2
    exact ⟨a, vs, rfl, .inl r1.sq, rd.flat h1, h3, by rw [h4]; exact hg.at (d := .bl _) q I rfl⟩
  | tup ys =>
    obtain ⟨a, vs, rfl, r1, z, q1⟩ := re
    obtain ⟨⟨h1, h2⟩, q⟩ := q
    obtain ⟨h3, h4⟩ := Reps.flat rd h1 q1 h2
    exact ⟨a, vs, rfl, .inr r1.sq, rd.flat h1, h3, by rw [h4]; exact hg.at (d := .bl _) q I rfl⟩
  | _ => exact q.elim
theorem cm_in : Cm G X Wx .In (inFlat false) := ⟨_, op_in_seq, v2_in false⟩
theorem cm_notin : Cm G X Wx .NotIn (inFlat true) := ⟨_, op_notIn_seq, v2_in true⟩
/-- one sign in a text -/
def inStr (neg : Bool) (x y : D) : W D := match x, y with
  | .str a, .str b => match a.cps.toList with
    | [k] => ret (.bl (if neg then !decide (k ∈ b.cps.toList) else decide (k ∈ b.cps.toList)))
    | _ => stuck
  | _, _ => stuck
theorem one_sign {a : Str} {k : Nat} (h : a.cps.toList = [k]) : a = ⟨#[k]⟩ := by
  cases a with
  | mk c =>
    have : c = #[k] := by
      apply Array.toList_inj.mp
      exact h
    rw [this]
theorem inStr_inv {neg : Bool} {x y : D} {n : Nt} {P : D → Nt → Prop} {PX : Exc → Nt → Prop} (h : inStr neg x y n P PX) : ∃ k b, x = .str ⟨#[k]⟩ ∧ y = .str b ∧ P (.bl (if neg then !decide (k ∈ b.cps.toList) else decide (k ∈ b.cps.toList))) n := by
  cases x with
  | str a =>
    cases y with
    | str b =>
      have h : (match a.cps.toList with | [k] => ret (.bl (if neg then !decide (k ∈ b.cps.toList) else decide (k ∈ b.cps.toList))) | _ => stuck : W D) n P PX := h
      generalize e : a.cps.toList = l at h
      match l, h with
      | [k], h => exact ⟨k, b, by rw [one_sign e], rfl, h⟩
      | [], h => exact h.elim
      | _ :: _ :: _, h => exact h.elim
    | _ => exact h.elim
  | _ => exact h.elim
theorem cm_inS : Cm G X Wx .In (inStr false) := ⟨_, op_in_sign, by
  intro c σ ρ H n P PX d e v w Q I rd re q hg hx
  obtain ⟨k, b, rfl, rfl, q⟩ := inStr_inv q
  obtain ⟨rfl, _⟩ := rd
  obtain ⟨rfl, _⟩ := re
  exact ⟨k, b, rfl, rfl, hg.at (d := .bl _) q I rfl⟩⟩
theorem cm_notinS : Cm G X Wx .NotIn (inStr true) := ⟨_, op_notIn_sign, by
  intro c σ ρ H n P PX d e v w Q I rd re q hg hx
  obtain ⟨k, b, rfl, rfl, q⟩ := inStr_inv q
  obtain ⟨rfl, _⟩ := rd
  obtain ⟨rfl, _⟩ := re
  exact ⟨k, b, rfl, rfl, hg.at (d := .bl _) q I rfl⟩⟩
/-! ### join -/
def txts : List D → Option (List Str)
  | [] => some []
  | .str b :: xs => (txts xs).map (b :: ·)
  | _ :: _ => none
theorem txts_vals {K : PySem.W.Frag} {S : Addr → Prop} {H : Hp} : ∀ {xs : List D} {bs : List Str} {vs : List V}, txts xs = some bs → Reps K S H xs vs → vs = bs.map V.str
  | [], bs, vs, h, r => by
    cases h
    exact r
  | x :: xs, bs, vs, h, r => by
    obtain ⟨v, ws, rfl, r1, r2⟩ := r
    cases x with
    | str b =>
      obtain ⟨cs, e1, e2⟩ := Option.map_eq_some_iff.mp h
      cases e2
      obtain ⟨rfl, _⟩ := r1
      rw [txts_vals e1 r2]
      rfl
    | _ => cases h
def joinW (a : Str) (xs : List D) : W D := match txts xs with
  | some ys => grd ((ys.map (·.length)).sum + ys.length * a.length ≤ 16777216 ∧ (Txt.join a ys).length ≤ sizeLine) (ret (.str (Txt.join a ys)))
  | none => stuck
def joinD (x y : D) : W D := match x, y with
  | .str a, .lst xs => joinW a xs
  | .str a, .tup xs => joinW a xs
  | _, _ => stuck
def onStr {α : Type} (x : D) (m : W α) : W α := match x with
  | .str _ => m
  | _ => stuck
theorem e_join {o e : Expr} {apos pos : Pos} {go ge : Env → W D} (ho : E G X Wx o go) (he : E G X Wx e ge) (hs : starEach [e] X.env = [(false, eval e X.env)] := by rfl) (hbase : attributeBase o "join" X.env (eval o X.env) = eval o X.env := by rfl) (hline : (apos.endLine == pos.line) = true := by rfl) :
    E G X Wx (.Call (.Attribute o "join" apos) [e] [] pos) (fun ρ => bnd (go ρ) fun x => onStr x (bnd (ge ρ) fun y => joinD x y)) :=
  weakE (pe_join ho he hs hbase hline) fun σ H Q ⟨c, ρ, n, P, PX, I, q, hg, hx⟩ => tE.bnd I q hx fun d k u S' H' p g I' hx' r => by
    cases d with
    | str a =>
      obtain ⟨rfl, hz⟩ := r
      refine ⟨⟨a, rfl⟩, tE.bnd I' p hx' fun d2 k2 u2 S2 H2 p2 g2 I2 hx2 r2 => ?_⟩
      have fin : ∀ xs vs b, joinW a xs k2 P PX → Reps X.K S2 H2 xs vs → (SqL X.K H2 b vs ∨ SqT X.K H2 b vs) → ∃ a_1 p, ∃ ys : List Str, V.str a = .str a_1 ∧ [V.ref b] = [.ref p] ∧ (SqL X.K H2 p (ys.map V.str) ∨ SqT X.K H2 p (ys.map V.str)) ∧
          (ys.map (·.length)).sum + ys.length * a_1.length ≤ 16777216 ∧ Q (.str (Txt.join a_1 ys)) H2 := fun xs vs b h1 h2 h3 => by
        unfold joinW at h1
        cases e : txts xs with
        | none => rw [e] at h1; exact h1.elim
        | some ys =>
          rw [e] at h1
          have e2 := txts_vals e h2
          rw [e2] at h3
          exact ⟨a, b, ys, rfl, rfl, h3, h1.1.1, (hg.grow (g.trans g2)).at (d := .str (Txt.join a ys)) h1.2 I2 ⟨rfl, h1.1.2⟩⟩
      cases d2 with
      | lst xs => obtain ⟨b, vs, rfl, r1, _, q1⟩ := r2; exact fin xs vs b p2 q1 (.inl r1.sq)
      | tup xs => obtain ⟨b, vs, rfl, r1, _, q1⟩ := r2; exact fin xs vs b p2 q1 (.inr r1.sq)
      | _ => exact p2.elim
    | _ => exact p.elim
end
end PL

/-! The layer: repr, dicts among the data too. -/
namespace PL
open PySem PySem.Spec L2

/-- data off the heap, no dict among it sys.modules -/
inductive RX (h : Heap) : Value → PyData → Prop where
  | none : RX h .none .none
  | bool (b : Bool) : RX h (.bool b) (.bool b)
  | int (i : Int) (t : Tok) : RX h (.int i t) (.int i)
  | str (x : Str) (t : Tok) : RX h (.str x t) (.str x)
  | list {a : Addr} {o : Obj} {vs : Array Value} {n : Nat} {xs : List PyData} : h.get? a = some o → o.cls = .type "list" → o.data = .seq vs n → Paired (RX h) vs.toList xs → RX h (.ref a) (.list xs)
  | tuple {a : Addr} {o : Obj} {vs : Array Value} {n : Nat} {xs : List PyData} : h.get? a = some o → o.cls = .type "tuple" → o.data = .seq vs n → Paired (RX h) vs.toList xs → RX h (.ref a) (.tuple xs)
  | dict {a : Addr} {o : Obj} {es : Array DictEntry} {n : Nat} {kvs : List (PyData × PyData)} : h.get? a = some o → o.cls = .type "dict" → o.data = .dict es n → (a == sysModules) = false →
      Paired (RX h) (es.toList.map (·.key)) (kvs.map (·.1)) → Paired (RX h) (es.toList.map (·.val)) (kvs.map (·.2)) → RX h (.ref a) (.dict kvs)

section
variable {h : Heap} {P : Program} {w : World}
mutual
theorem RX.reads : ∀ (d : PyData) {v : Value}, RX h v d → ∃ as, Reads h v d as
  | .none, _, .none => ⟨_, .none⟩
  | .bool _, _, .bool b => ⟨_, .bool b⟩
  | .int _, _, .int i t => ⟨_, .int i t⟩
  | .str _, _, .str x t => ⟨_, .str x t⟩
  | .list xs, _, .list h1 h2 h3 h4 => let ⟨_, q⟩ := RX.readsAll xs h4; ⟨_, .list h1 h2 h3 q⟩
  | .tuple xs, _, .tuple h1 h2 h3 h4 => let ⟨_, q⟩ := RX.readsAll xs h4; ⟨_, .tuple h1 h2 h3 q⟩
  | .dict kvs, _, .dict h1 h2 h3 _ h5 h6 => let ⟨⟨_, q⟩, ⟨_, q2⟩⟩ := RX.readsKv kvs h5 h6; ⟨_, .dict h1 h2 h3 q q2⟩
theorem RX.readsAll : ∀ (ds : List PyData) {vs : List Value}, Paired (RX h) vs ds → ∃ as, ReadsAll h vs ds as
  | [], _, .nil => ⟨_, .nil⟩
  | d :: ds, _, .cons r t => let ⟨_, q⟩ := RX.reads d r; let ⟨_, q2⟩ := RX.readsAll ds t; ⟨_, .cons q q2⟩
theorem RX.readsKv : ∀ (ds : List (PyData × PyData)) {vs us : List Value}, Paired (RX h) vs (ds.map (·.1)) → Paired (RX h) us (ds.map (·.2)) → (∃ as, ReadsAll h vs (ds.map (·.1)) as) ∧ ∃ as, ReadsAll h us (ds.map (·.2)) as
  | [], _, _, .nil, .nil => ⟨⟨_, .nil⟩, _, .nil⟩
  | (a, b) :: ds, _, _, .cons r t, .cons r' t' =>
    let ⟨_, q⟩ := RX.reads a r
    let ⟨_, q'⟩ := RX.reads b r'
    let ⟨⟨_, q2⟩, ⟨_, q3⟩⟩ := RX.readsKv ds t t'
    ⟨⟨_, .cons q q2⟩, _, .cons q' q3⟩
end
/-- the text's length stays within the line -/
def Fit (d : PyData) : Prop := d.showable = true ∧ d.shown.length ≤ sizeLine
theorem Fit.list {xs : List PyData} (f : Fit (.list xs)) : ∀ x ∈ xs, Fit x := by
  obtain ⟨h1, h2⟩ := f
  have e : (listText (PyData.shownAll xs)).length ≤ sizeLine := by simpa only [PyData.shown] using h2
  have a1 : PyData.showableAll xs = true := by simpa [PyData.showable] using h1
  clear h1 h2
  have key : ∀ t ∈ PyData.shownAll xs, t.length ≤ sizeLine := fun t ht => Nat.le_trans (listText_mem_le ht) e
  clear e
  induction xs with
  | nil => exact fun x hx => nomatch hx
  | cons y ys ih =>
    rw [PyData.showableAll, Bool.and_eq_true] at a1
    intro x hx
    rcases List.mem_cons.mp hx with rfl | hx
    · exact ⟨a1.1, key _ (by rw [PyData.shownAll]; exact List.mem_cons_self)⟩
    · exact ih a1.2 (fun t ht => key t (by rw [PyData.shownAll]; exact List.mem_cons_of_mem _ ht)) x hx
theorem Fit.tuple {xs : List PyData} (f : Fit (.tuple xs)) : ∀ x ∈ xs, Fit x := by
  obtain ⟨h1, h2⟩ := f
  have e : (tupleText (PyData.shownAll xs)).length ≤ sizeLine := by simpa only [PyData.shown] using h2
  have a1 : PyData.showableAll xs = true := by simpa [PyData.showable] using h1
  clear h1 h2
  have key : ∀ t ∈ PyData.shownAll xs, t.length ≤ sizeLine := fun t ht => Nat.le_trans (tupleText_mem_le ht) e
  clear e
  induction xs with
  | nil => exact fun x hx => nomatch hx
  | cons y ys ih =>
    rw [PyData.showableAll, Bool.and_eq_true] at a1
    intro x hx
    rcases List.mem_cons.mp hx with rfl | hx
    · exact ⟨a1.1, key _ (by rw [PyData.shownAll]; exact List.mem_cons_self)⟩
    · exact ih a1.2 (fun t ht => key t (by rw [PyData.shownAll]; exact List.mem_cons_of_mem _ ht)) x hx
theorem Fit.dict {kvs : List (PyData × PyData)} (f : Fit (.dict kvs)) : (∀ x ∈ kvs, Fit x.1 ∧ Fit x.2) := by
  obtain ⟨h1, h2⟩ := f
  have e : (dictText (PyData.shownKv kvs)).length ≤ sizeLine := by simpa only [PyData.shown] using h2
  have a1 : PyData.showableKv kvs = true := by simpa [PyData.showable] using h1
  clear h1 h2
  have key : ∀ t ∈ PyData.shownKv kvs, t.length ≤ sizeLine := fun t ht => Nat.le_trans (dictText_mem_le ht) e
  clear e
  induction kvs with
  | nil => exact fun x hx => nomatch hx
  | cons y ys ih =>
    obtain ⟨a, b⟩ := y
    rw [PyData.showableKv, Bool.and_eq_true, Bool.and_eq_true] at a1
    intro x hx
    rcases List.mem_cons.mp hx with rfl | hx
    · have := key _ (by rw [PyData.shownKv]; exact List.mem_cons_self)
      rw [PySem.Str.length_append, PySem.Str.length_append] at this
      exact ⟨⟨a1.1.1, by show a.shown.length ≤ sizeLine; omega⟩, ⟨a1.1.2, by show b.shown.length ≤ sizeLine; omega⟩⟩
    · exact ih a1.2 (fun t ht => key t (by rw [PyData.shownKv]; exact List.mem_cons_of_mem _ ht)) x hx

mutual
theorem RX.shows : ∀ (d : PyData) {v : Value}, RX h v d → Fit d → ∃ bs, ReadAtMost h d.depth bs ∧ ReprK P w bs h d.depth v d.shown
  | .none, _, .none, _ => ⟨[], fun _ q => (nomatch q), by rw [PyData.shown]; exact .of_is ReprIs.none _ _ _⟩
  | .bool _, _, .bool b, _ => ⟨[], fun _ q => (nomatch q), by rw [PyData.shown]; exact .of_is (ReprIs.bool b) _ _ _⟩
  | .int _, _, .int i t, f => ⟨[], fun _ q => (nomatch q), by rw [PyData.shown]; exact .of_is (ReprIs.int t (by simpa [PyData.showable] using f.1)) _ _ _⟩
  | .str _, _, .str x t, f => ⟨[], fun _ q => (nomatch q), by rw [PyData.shown]; exact .of_is (ReprIs.str x t (by simpa only [PyData.shown] using f.2)) _ _ _⟩
  | .list xs, _, .list (a := a) (vs := vs) h1 h2 h3 h4, f => by
    obtain ⟨bs, hb, hk⟩ := RX.showsAll xs h4 f.list
    obtain ⟨as, r⟩ := RX.reads (.list xs) (.list h1 h2 h3 h4)
    have hn : a ∉ bs := not_mem_of_deeper r (by rw [PyData.depth]; omega) hb
    refine ⟨a :: bs, .cons r (by rw [PyData.depth]; omega) hb, ?_⟩
    rw [PyData.depth, PyData.shown]
    obtain ⟨l⟩ := vs
    cases l with
    | nil =>
      have h4 : Paired (RX h) [] xs := h4
      cases h4
      rw [PyData.shownAll, listText_nil]
      exact .listEmpty h1 h2 h3
    | cons y l => exact .list h1 h2 h3 hn (by simpa using hk.length_eq) fun i z e => hk.item i z (by simpa using e)
  | .tuple xs, _, .tuple (a := a) (vs := vs) h1 h2 h3 h4, f => by
    obtain ⟨bs, hb, hk⟩ := RX.showsAll xs h4 f.tuple
    obtain ⟨as, r⟩ := RX.reads (.tuple xs) (.tuple h1 h2 h3 h4)
    refine ⟨a :: bs, .cons r (by rw [PyData.depth]; omega) hb, ?_⟩
    rw [PyData.depth, PyData.shown]
    exact .tuple h1 h2 h3 (not_mem_of_deeper r (by rw [PyData.depth]; omega) hb) hk
  | .dict kvs, _, .dict (a := a) (es := es) h1 h2 h3 h4 h5 h6, f => by
    obtain ⟨b1, b2, hb1, k1, hb2, k2⟩ := RX.showsKv kvs h5 h6 f.dict
    obtain ⟨as, r⟩ := RX.reads (.dict kvs) (.dict h1 h2 h3 h4 h5 h6)
    have hb : ReadAtMost h (PyData.depthKv kvs) (b1 ++ b2) := .append hb1 hb2
    refine ⟨a :: (b1 ++ b2), .cons r (by rw [PyData.depth]; omega) hb, ?_⟩
    rw [PyData.depth, PyData.shown, PyData.shownKv_eq]
    exact .dict h1 h2 h3 h4 (not_mem_of_deeper r (by rw [PyData.depth]; omega) hb) (.of_two es.toList _ _ (k1.more_le (fun b q => List.mem_append_left _ q) (Nat.le_refl _)) (k2.more_le (fun b q => List.mem_append_right _ q) (Nat.le_refl _)))
theorem RX.showsAll : ∀ (ds : List PyData) {vs : List Value}, Paired (RX h) vs ds → (∀ d ∈ ds, Fit d) → ∃ bs, ReadAtMost h (PyData.depthAll ds) bs ∧ ReprAllK P w bs h (PyData.depthAll ds) vs (PyData.shownAll ds)
  | [], _, .nil, _ => ⟨[], fun _ q => (nomatch q), .nil⟩
  | d :: ds, _, .cons r t, f => by
    obtain ⟨b1, h1, k1⟩ := RX.shows d r (f d List.mem_cons_self)
    obtain ⟨b2, h2, k2⟩ := RX.showsAll ds t fun x q => f x (List.mem_cons_of_mem _ q)
    refine ⟨b1 ++ b2, ?_, ?_⟩
    · rw [PyData.depthAll]; exact .append (h1.mono (Nat.le_max_left _ _)) (h2.mono (Nat.le_max_right _ _))
    · rw [PyData.depthAll, PyData.shownAll]
      exact .cons ((k1.more fun b q => List.mem_append_left _ q).level_le (Nat.le_max_left _ _)) (k2.more_le (fun b q => List.mem_append_right _ q) (Nat.le_max_right _ _))
theorem RX.showsKv : ∀ (ds : List (PyData × PyData)) {vs us : List Value}, Paired (RX h) vs (ds.map (·.1)) → Paired (RX h) us (ds.map (·.2)) → (∀ d ∈ ds, Fit d.1 ∧ Fit d.2) →
    ∃ b1 b2, ReadAtMost h (PyData.depthKv ds) b1 ∧ ReprAllK P w b1 h (PyData.depthKv ds) vs (PyData.shownAll (ds.map (·.1))) ∧ ReadAtMost h (PyData.depthKv ds) b2 ∧ ReprAllK P w b2 h (PyData.depthKv ds) us (PyData.shownAll (ds.map (·.2)))
  | [], _, _, .nil, .nil, _ => ⟨[], [], fun _ q => (nomatch q), .nil, fun _ q => (nomatch q), .nil⟩
  | (x, y) :: ds, _, _, .cons r t, .cons r' t', f => by
    obtain ⟨a1, h1, k1⟩ := RX.shows x r (f _ List.mem_cons_self).1
    obtain ⟨a2, h2, k2⟩ := RX.shows y r' (f _ List.mem_cons_self).2
    obtain ⟨b1, b2, g1, j1, g2, j2⟩ := RX.showsKv ds t t' fun z q => f z (List.mem_cons_of_mem _ q)
    rw [PyData.depthKv, List.map_cons, List.map_cons, PyData.shownAll, PyData.shownAll]
    have m1 : PyData.depth x ≤ max (max (PyData.depth x) (PyData.depth y)) (PyData.depthKv ds) := by omega
    have m2 : PyData.depth y ≤ max (max (PyData.depth x) (PyData.depth y)) (PyData.depthKv ds) := by omega
    have m3 : PyData.depthKv ds ≤ max (max (PyData.depth x) (PyData.depth y)) (PyData.depthKv ds) := by omega
    exact ⟨a1 ++ b1, a2 ++ b2, .append (h1.mono m1) (g1.mono m3), .cons ((k1.more fun b q => List.mem_append_left _ q).level_le m1) (j1.more_le (fun b q => List.mem_append_right _ q) m3),
      .append (h2.mono m2) (g2.mono m3), .cons ((k2.more fun b q => List.mem_append_left _ q).level_le m2) (j2.more_le (fun b q => List.mem_append_right _ q) m3)⟩
end
/-- repr(x) -/
theorem RX.repr {d : PyData} {v : Value} {A : Around} {E : Value → Shared → Prop} {s : Shared} {Q : Value → Shared → Prop} (r : RX s.heap v d) (f : Fit d) (hg : A.guards = some []) (hu : A.units + (d.depth + 1) < cLine)
    (hQ : ∀ h' u tk, (∀ b o, s.heap.get? b = some o → h'.get? b = some o) → Q (.str d.shown u) { s with heap := h', toks := tk }) : wpAny (model P w) A (call (.builtin "repr") [v]) Q E s := by
  cases r with
  | none => exact PySem.P.repr_of_none (by have := hQ s.heap s.toks (s.toks + 1) (fun _ _ e => e); rwa [PyData.shown] at this)
  | bool b => exact PySem.P.repr_of_bool (by have := hQ s.heap s.toks (s.toks + 1) (fun _ _ e => e); rw [PyData.shown] at this; cases b <;> exact this)
  | int i t => exact PySem.P.repr_of_int (by simpa [PyData.showable] using f.1) (by have := hQ s.heap s.toks (s.toks + 1) (fun _ _ e => e); rwa [PyData.shown] at this)
  | str x t => exact PySem.P.repr_of_str (by have := hQ s.heap s.toks (s.toks + 1) (fun _ _ e => e); rwa [PyData.shown] at this) (by simpa only [PyData.shown] using f.2)
  | @list a o vs n xs h1 h2 h3 h4 =>
    obtain ⟨bs, hb, hk⟩ := RX.showsAll (P := P) (w := w) xs h4 f.list
    obtain ⟨as, r⟩ := RX.reads (.list xs) (.list h1 h2 h3 h4)
    have hn : a ∉ bs := not_mem_of_deeper r (by rw [PyData.depth]; omega) hb
    have hz : (listText (PyData.shownAll xs)).length ≤ sizeLine := by simpa only [PyData.shown] using f.2
    rw [PyData.depth] at hu
    rw [PyData.shown] at hQ
    refine call_repr_slot (by omega) (T := "list") ⟨o, h1, h2⟩ F.slot_list_repr.toG ?_
    obtain ⟨l⟩ := vs
    cases l with
    | nil =>
      have h4 : Paired (RX s.heap) [] xs := h4
      cases h4
      rw [PyData.shownAll, listText_nil] at hQ
      exact call_list_repr_empty ⟨o, h1, h2⟩ h1 h3 ⟨_, _, rfl, hQ s.heap _ _ fun _ _ e => e⟩
    | cons y l => exact call_list_reprK h1 h2 h3 hn (by simpa using hk.length_eq) (fun i z e => hk.item i z (by simpa using e)) hg (fun b _ => Clear.nil b) (by show A.units + 1 + _ < cLine; omega) (fun _ _ e => e) (fun h' u tk q => ⟨_, _, rfl, hQ h' u tk q⟩) hz
  | @tuple a o vs n xs h1 h2 h3 h4 =>
    obtain ⟨bs, hb, hk⟩ := RX.showsAll (P := P) (w := w) xs h4 f.tuple
    obtain ⟨as, r⟩ := RX.reads (.tuple xs) (.tuple h1 h2 h3 h4)
    have hn : a ∉ bs := not_mem_of_deeper r (by rw [PyData.depth]; omega) hb
    have hz : (tupleText (PyData.shownAll xs)).length ≤ sizeLine := by simpa only [PyData.shown] using f.2
    rw [PyData.depth] at hu
    rw [PyData.shown] at hQ
    exact call_repr_slot (by omega) (T := "tuple") ⟨o, h1, h2⟩ F.slot_tuple_repr (call_tuple_reprK h1 h2 h3 hn hk hg (fun b _ => Clear.nil b) (by show A.units + 1 + _ < cLine; omega) (fun _ _ e => e) (fun h' u tk q => ⟨_, _, rfl, hQ h' u tk q⟩) hz)
  | @dict a o es n kvs h1 h2 h3 h4 h5 h6 =>
    obtain ⟨b1, b2, hb1, k1, hb2, k2⟩ := RX.showsKv (P := P) (w := w) kvs h5 h6 f.dict
    obtain ⟨as, r⟩ := RX.reads (.dict kvs) (.dict h1 h2 h3 h4 h5 h6)
    have hb : ReadAtMost s.heap (PyData.depthKv kvs) (b1 ++ b2) := .append hb1 hb2
    have hz : (dictText (PyData.shownKv kvs)).length ≤ sizeLine := by simpa only [PyData.shown] using f.2
    rw [PyData.depth] at hu
    rw [PyData.shown, PyData.shownKv_eq] at hQ
    exact call_repr_slot (by omega) (T := "dict") ⟨o, h1, h2⟩ F.slot_dict_repr (call_dict_reprK h1 h2 h3 h4 (not_mem_of_deeper r (by rw [PyData.depth]; omega) hb)
      (.of_two es.toList _ _ (k1.more_le (fun b q => List.mem_append_left _ q) (Nat.le_refl _)) (k2.more_le (fun b q => List.mem_append_right _ q) (Nat.le_refl _))) hg (fun b _ => Clear.nil b) (by show A.units + 1 + _ < cLine; omega) (fun _ _ e => e) (fun h' u tk q => ⟨_, _, rfl, hQ h' u tk q⟩) (by rw [← PyData.shownKv_eq]; exact hz))
end

section
variable {X : Cx} {pins : List (Addr × Obj)} {σ : L2.St} {H : Hp} {s : Shared} {S : Addr → Prop}
theorem RX.int' {h : Heap} {v : Value} {i : Int} {t : Tok} (e : v = .int i t) : RX h v (.int i) := by rw [e]; exact .int i t
theorem RX.str' {h : Heap} {v : Value} {i : Str} {t : Tok} (e : v = .str i t) : RX h v (.str i) := by rw [e]; exact .str i t
theorem keys_rx {h : Heap} {K : PySem.W.Frag} : ∀ {kvs : List (Key × D)} {kws : List (Key × V)} {vs : List (Key × Value)} {es : List DictEntry}, RepK K S H kvs kws → L2.KV kws vs → Pairs (mixKind P w) es vs → Paired (RX h) (es.map (·.key)) ((pyk kvs).map (·.1))
  | [], _, _, _, r, k, p => by
    have e : _ = [] := r
    rw [e] at k
    cases k
    cases p
    exact .nil
  | (k, x) :: kvs, _, _, _, r, q, p => by
    obtain ⟨v, ws, rfl, _, r2⟩ := r
    cases q with
    | @cons _ b _ bs hk q =>
      cases p with
      | cons h1 h2 p =>
        have ih := keys_rx (h := h) r2 q p
        have e : k = b.1 := hk.1
        rw [← e] at h1
        rcases keyIs_shape h1 with ⟨i, t, e1, e2⟩ | ⟨y, t, e1, e2⟩
        · rw [e1]
          exact .cons (RX.int' e2) ih
        · rw [e1]
          exact .cons (RX.str' e2) ih
mutual
theorem Rep.rx (I : Inv X pins σ H s) : ∀ (d : D) (v : V) (u : Value), Rep X.K S H d v → RelV v u → RX s.heap u (py d)
  | .non, v, u, r, q => by cases r; cases q; exact .none
  | .bl b, v, u, r, q => by cases r; cases q; exact .bool b
  | .int i, v, u, r, q => by cases r; obtain ⟨t, rfl⟩ := q; exact .int i t
  | .str x, v, u, r, q => by obtain ⟨rfl, _⟩ := r; obtain ⟨t, rfl⟩ := q; exact .str x t
  | .lst xs, v, u, r, q => by
    obtain ⟨a, vs, rfl, r1, _, r2⟩ := r
    cases q
    obtain ⟨its, rv, ⟨⟨cls, dd, data, sl⟩, n, ho, hc, hdn, hdt⟩, _⟩ := I.list r1.sq
    exact .list ho hc hdt (Reps.rx I xs vs _ r2 rv)
  | .tup xs, v, u, r, q => by
    obtain ⟨a, vs, rfl, r1, _, r2⟩ := r
    cases q
    obtain ⟨its, rv, ⟨o, ho, hc, n, hdt⟩, _⟩ := I.tuple r1.sq
    exact .tuple ho hc hdt (Reps.rx I xs vs _ r2 rv)
  | .dic kvs, v, u, r, q => by
    obtain ⟨a, kws, rfl, ⟨_, r1⟩, r2⟩ := r
    cases q
    obtain ⟨_, hs, vs, kv, o, es, ep, ho, hx, hdt, _, hp, _⟩ : kws.length ≤ sizeLine ∧ (a == sysModules) = false ∧ ∃ vs, L2.KV kws vs ∧ s.heap.DictOf (mixKind X.prog X.w) a vs := dk_rd I.hok r1
    exact .dict ho hx.1 hdt hs (keys_rx r2 kv hp) (RepK.rx I kvs kws vs _ r2 kv hp)
theorem Reps.rx (I : Inv X pins σ H s) : ∀ (xs : List D) (vs : List V) (us : List Value), Reps X.K S H xs vs → Vals vs us → Paired (RX s.heap) us (pys xs)
  | [], _, _, r, q => by
    have e : _ = [] := r
    rw [e] at q
    cases q
    exact .nil
  | x :: xs, _, _, r, q => by
    obtain ⟨v, ws, rfl, r1, r2⟩ := r
    cases q with
    | cons q1 q2 => exact .cons (Rep.rx I x v _ r1 q1) (Reps.rx I xs ws _ r2 q2)
theorem RepK.rx (I : Inv X pins σ H s) : ∀ (kvs : List (Key × D)) (kws : List (Key × V)) (vs : List (Key × Value)) (es : List DictEntry), RepK X.K S H kvs kws → L2.KV kws vs → Pairs (mixKind X.prog X.w) es vs → Paired (RX s.heap) (es.map (·.val)) ((pyk kvs).map (·.2))
  | [], _, _, _, r, q, p => by
    have e : _ = [] := r
    rw [e] at q
    cases q
    cases p
    exact .nil
  | (k, x) :: kvs, _, _, _, r, q, p => by
    obtain ⟨v, ws, rfl, r1, r2⟩ := r
    cases q with
    | @cons _ b _ bs hk q =>
      cases p with
      | cons h1 h2 p =>
        have ih := RepK.rx I kvs ws bs _ r2 q p
        have hd := Rep.rx I x v b.2 r1 hk.2
        rw [← h2] at hd
        cases k with
        | inl i => exact .cons hd ih
        | inr i => exact .cons hd ih
end
end
/-- repr(e) -/
def reprD (d : D) : W D := grd ((py d).showable = true ∧ (py d).shown.length ≤ sizeLine ∧ (py d).depth ≤ 64) (ret (.str (py d).shown))
theorem e_repr {G : PenK} {X : Cx} {Wx : WX} {k : Nat} {p pos : Pos} {e : Expr} {g : Env → W D} (hm : X.mg "repr" = none) (hgd : X.A.guards = some []) (hr : Room k X.A) (h : E G X Wx e g) (hg : Gl X "repr" := by rfl) (he : starEach [e] X.env = (false, eval e X.env) :: starEach [] X.env := by rfl) (hpl : (backTo pos (starEach [] X.env)).any (·.1) = false := by rfl) :
    E G X Wx (.Call (.Name "repr" p) [e] [] pos) (fun ρ => bnd (g ρ) reprD) :=
  e_callB (r := fun vs H Q => ∃ (S : Addr → Prop) (d : D) (v : V), vs = [v] ∧ Rep X.K S H d v ∧ ((py d).showable = true ∧ (py d).shown.length ≤ sizeLine ∧ (py d).depth ≤ 64) ∧ Q (.str (py d).shown) H) hm PyProof.Rows.boot_repr
    (fun pins s σ H xs us Q I rv ⟨S, d, v, e1, r, ⟨h1, h2, h3⟩, q⟩ => by
      subst e1
      obtain ⟨u, rfl, ru⟩ := L2.vals1 rv
      exact RX.repr (Rep.rx I d v u r ru) ⟨h1, h2⟩ hgd (by have := hr.un; omega) fun h' t tk hk => ⟨.str _, H, I.kept hk, ⟨t, rfl⟩, q⟩)
    (va_one (f := reprD) (r := fun v H Q => ∃ (S : Addr → Prop) (d : D), Rep X.K S H d v ∧ ((py d).showable = true ∧ (py d).shown.length ≤ sizeLine ∧ (py d).depth ≤ 64) ∧ Q (.str (py d).shown) H) (fun c σ ρ H n P PX d v Q I r ⟨h1, q⟩ hg hx => ⟨c.S, d, r, h1, hg.at (d := .str (py d).shown) q I ⟨rfl, h1.2.1⟩⟩)
      fun x H Q ⟨S, d, r, h1, q⟩ => ⟨S, d, x, rfl, r, h1, q⟩) (a_cons h a_nil he) hg (by decide) (by decide) he hpl
end PL

/-! The layer: the source of draws [cells, turn, rest], and a draw. -/
namespace PL
open PySem PySem.Spec L2

/-- the list of the cells, the turn, the rest; at most n draws so far -/
def penG : PenK where
  inv := fun H a b n => a ≠ b ∧ ∃ (cs : List Int) (t g : Int), H a = some (.lst [.ref b, .int t, .int g]) ∧ H b = some (.lst (cs.map V.int)) ∧ cs.length ≤ 63 ∧ 0 ≤ t ∧ t ≤ n ∧ 0 ≤ g
  dep := fun ⟨h0, cs, t, g, h1, h2, h3⟩ e1 e2 => ⟨h0, cs, t, g, e1.trans h1, e2.trans h2, h3⟩
  there := fun ⟨_, cs, t, g, h1, h2, _⟩ => ⟨(by rw [h1]; exact fun z => (nomatch z)), (by rw [h2]; exact fun z => (nomatch z))⟩
  isL := fun ⟨_, cs, t, g, h1, h2, _⟩ => ⟨⟨_, h1⟩, _, h2⟩
/-- .. with tables of code objects, the module's names -/
def PenK.wt (G : PenK) (T : List (Addr × Str)) (mg : Str → Option Value) : PenK := { G with tab := T, mg := mg }
def drawMax : Nat := 4000000
/-- any number below b -/
def drawB (b : Int) : W D := fun n P _ => n.n < drawMax ∧ 0 < b ∧ b < 1073741824 ∧ ∀ r k, 0 ≤ r → r < b → n.n ≤ k → k ≤ n.n + 1 → P (.int r) ⟨k, n.μ⟩
def drawM : List SV → W D
  | [.pen, .d (.int b)] => drawB b
  | _ => stuck

theorem drawM_inv {args : List SV} {n : Nt} {P : D → Nt → Prop} {PX : Exc → Nt → Prop} (h : drawM args n P PX) :
    ∃ b, args = [.pen, .d (.int b)] ∧ n.n < drawMax ∧ 0 < b ∧ b < 1073741824 ∧ ∀ r k, 0 ≤ r → r < b → n.n ≤ k → k ≤ n.n + 1 → P (.int r) ⟨k, n.μ⟩ := by
  unfold drawM at h
  split at h
  · exact ⟨_, rfl, h⟩
  · exact h.elim
theorem u64 {A : Around} {k : Nat} (r : Room k A) : A.units + 64 < cLine := by
  have := r.un
  omega
theorem rd_ix {K : PySem.W.Frag} {σ : L2.St} {H : Hp} {Q : VK} {a : Addr} {L : List V} {i : Nat} (j : Nat) {v : V} (e : σ[i]? = some (some (.ref a))) (h : H a = some (.lst L)) (hv : L[j]? = some v) (q : Q v H) : tOp (rIxL K) (tVar i) (tC (.int j)) σ H Q :=
  ⟨.ref a, e, a, L, j, v, rfl, rfl, SqL.of h, atI_nat hv, q⟩
theorem wr_ix {σ : L2.St} {H : Hp} {Q : L2.St → Hp → Prop} {a : Addr} {L : List V} {i : Nat} (j : Nat) {v : V} (e : σ[i]? = some (some (.ref a))) (h : H a = some (.lst L)) (hj : j < L.length) (q : Q σ (upd H a (.lst (L.set j v)))) : gSub (tVar i) (tC (.int j)) rSetL v σ H Q :=
  ⟨.ref a, e, a, L, j, j, rfl, rfl, h, by unfold ixN; rw [if_pos (by omega), if_pos (by omega)]; rfl, q⟩
theorem sq_le {t : Int} {n : Int} (h0 : 0 ≤ t) (h1 : t ≤ n) : t * t ≤ n * n := Int.mul_le_mul h1 h1 h0 (Int.le_trans h0 h1)
theorem eqv_nil {cs : List Int} : PyData.eqv (.list (cs.map PyData.int)) (.list []) = cs.isEmpty := by
  cases cs <;> simp [PyData.eqv, PyData.eqvAll]
theorem shaped_ints (cs : List Int) : SeqAt.shaped (.list (cs.map PyData.int)) = true := by
  have h1 : ∀ l : List Int, PyData.canLayAll0 (l.map PyData.int) = true := fun l => by
    induction l with
    | nil => simp [PyData.canLayAll0]
    | cons x l ih => simp [PyData.canLayAll0, PyData.canLay0, ih]
  have h2 : ∀ l : List Int, PyData.depthAll (l.map PyData.int) = 0 := fun l => by
    induction l with
    | nil => simp [PyData.depthAll]
    | cons x l ih => simp [PyData.depthAll, PyData.depth, ih]
  simp [SeqAt.shaped, PyData.canLay0, PyData.depth, h1 cs, h2 cs]
theorem dp_ints {K : PySem.W.Frag} {H : Hp} : ∀ cs : List Int, DpAll K H (cs.map V.int) (cs.map PyData.int)
  | [] => .nil
  | c :: cs => .cons (.int c) (dp_ints cs)
theorem tab_eq {S : Addr → Prop} {H H2 : Hp} {a P : Addr} {q : Str} (sm : ∀ x o, x ≠ a → H x = some o → H2 x = some o) (t : TabI S H P q) (haL : ∃ xs, H a = some (.lst xs)) : H2 P = H P := by
  obtain ⟨ps, h1, _⟩ := t
  obtain ⟨xs, h2⟩ := haL
  rw [h1]
  exact sm P _ (fun z => by rw [z, h2] at h1; cases h1) h1
/-- the state of the source behind a change of its list alone -/
theorem After.draw {S : Addr → Prop} {H H2 : Hp} {a b : Addr} {cs : List Int} {t g : Int} {k : Nat} (hne : a ≠ b) (dom : ∀ x, S x → H x ≠ none) (ha : H a ≠ none) (nSa : ¬ S a) (nSb : ¬ S b) (hb : H b = some (.lst (cs.map V.int))) {T : List (Addr × Str)} {mg : Str → Option Value} (htb : ∀ q ∈ T, ¬ S q.1 ∧ TabI S H q.1 q.2) (haL : ∃ xs, H a = some (.lst xs)) {K : PySem.W.Frag} {n : Nt} (hm : MuOk (penG.wt T mg) K S H (some (a, b)) n)
    (sm : ∀ x o, x ≠ a → H x = some o → H2 x = some o) (h2 : H2 a = some (.lst [.ref b, .int t, .int g])) (h3 : cs.length ≤ 63) (ht : 0 ≤ t) (hk : t ≤ k) (hg : 0 ≤ g) : After (penG.wt T mg) K S S (some (a, b)) n H H2 ⟨k, n.μ⟩ := by
  have eqS : ∀ x, S x → H2 x = H x := fun x hx => by
    cases e : H x with
    | none => exact absurd e (dom x hx)
    | some o => exact sm x o (fun z => nSa (z ▸ hx)) e
  refine ⟨⟨fun _ h => h, eqS⟩, fun x hx => by rw [eqS x hx]; exact dom x hx, fun x hx => .inl hx, fun x o e hp _ _ => sm x o (hp (a, b) rfl).1 e, fun q hq => TabI.grow ⟨fun _ h => h, eqS⟩ (tab_eq sm (htb q hq).2 haL) (htb q hq).2, fun p e => ?_, fun x nd e => ?_, fun _ h => h, hm.2⟩
  · cases e
    exact ⟨⟨hne, cs, t, g, h2, sm b _ (Ne.symm hne) hb, h3, ht, hk, hg⟩, nSa, nSb⟩
  · obtain ⟨m1, m2, m3, m4⟩ := hm.1 x nd e
    obtain ⟨o, eo⟩ := Option.ne_none_iff_exists'.mp m1.there
    exact ⟨m1.grow ⟨fun _ h => h, eqS⟩ ((sm x o (m3 (a, b) rfl).1 eo).trans eo.symm), m2, .inl (by rw [e]; exact fun z => nomatch z)⟩
end PL

/-! The layer: a law's own def, its end. -/
namespace PL
open PySem PySem.Spec PyProof.Rows L2

/-- the source is made of the script -/
def spFeed (K : PySem.W.Frag) : Sp := fun vs H Q _ => ∃ (a : Addr) (ns : List Int), vs = [.ref a] ∧ SqL K H a (ns.map V.int) ∧ ns.length ≤ 63 ∧
  ∀ H' p b, p ≠ b → Same H H' → H' p = some (.lst [.ref b, .int 0, .int 0]) → H' b = some (.lst (ns.map V.int)) → Q (.ref p) H'
theorem same_new {H : Hp} {p : Addr} {o : HO} (h : H p = none) : Same H (upd H p o) := fun x u e => by
  rw [upd_ne (ne_of_none e h)]
  exact e
/-- what the law's def promises: True, whatever the script -/
def spLaw (K : PySem.W.Frag) : Sp := fun vs H Q _ => ∃ (a : Addr) (ns : List Int), vs = [.ref a] ∧ SqL K H a (ns.map V.int) ∧ ns.length ≤ 63 ∧ ∀ H', Q (.bl true) H'

section
variable {P : Program} {w : World} {K : PySem.W.Frag} {mg mb : Str → Option Value}
/-- the law is called over a heap in which the script alone may be told -/
theorem law_core {k : Nat} {fa a : Addr} {fd : FuncData} {x : Str} {s : Shared} {vs : List Value} {ns : List Int} {H : Hp} (kin : K.In s.heap) (hns : s.heap.Ns mainGlobals mg) (hb : s.heap.Ns builtinsNs mb) (hbb : ∀ y : Str, y ≠ "__name__" → mb y = bootBuiltins y) (hlim : s.heap.NoLimit) (hgen : s.gens = #[])
    (ho : s.heap.get? a = some { cls := .type "list", data := .seq vs.toArray }) (hl : ns.length ≤ 63) (hr : Room k callerA) (F : ∀ base : Heap, K.In base → base.Ns mainGlobals mg → FnG P w K mg base k fa fd [x] (spLaw K)) (hbind : ∀ (s : Shared) (u : Value), BindsTo s fd ⟨[u], []⟩ [(x, u)])
    (only : ∀ b, H b ≠ none → b = a ∧ ∃ o u, H b = some (.frz o (.lst u))) (seq : SqL K H a (ns.map V.int)) (ok : HOk P w H s.heap) (notK : H a ≠ none → K.lookup a = none) :
    codeAny (model P w) callerA (.call (.ref fa) ⟨[.ref a], []⟩) (fun r s' => r = .ok (.ret (.bool true)) ∧ OldK s.heap s'.heap ∧ s'.os = s.os ∧ AllBare s'.gens) s := by
  have outside : ∀ {b o}, s.heap.get? b = some o → b ≠ a → (hidT s.heap H).get? b = some o := fun {b o} e n => hidT_get e (Classical.byContradiction fun z => n (only b z).1)
  have dictOut : ∀ {b : Addr} {m : Str → Option Value}, s.heap.Ns b m → (hidT s.heap H).Ns b m := fun {b m} ⟨o, es, ep, e, d, r⟩ => ⟨o, es, ep, outside e (fun z => by rw [z, ho] at e; cases e; cases d), d, r⟩
  have kin' : K.In (hidT s.heap H) := fun b o e => hidT_get (kin b o e) (Classical.byContradiction fun z => by
    have q := only b z
    rw [q.1] at z e
    rw [notK z] at e
    cases e)
  have mod : Mod K mg (hidT s.heap H) := ⟨kin', dictOut hns, ⟨mb, dictOut hb, hbb⟩, by obtain ⟨mc, h1, h2⟩ := hlim; exact ⟨mc, dictOut h1, h2⟩⟩
  have e0 : Env0 P w K mg (hidT s.heap H) callerA [] s H := ⟨rfl, mod, fun _ _ e => of_hidT e, Nat.le_of_eq (hidT_size _ _), trivial, fun b hb => absurd hb (by simp [frs]), ok, .of_eq hgen⟩
  refine codeAny_mono ((F _ kin' (dictOut hns)).run callerA [] s H ⟨[.ref a], []⟩ [.ref a] [.ref a] (fun v _ => v = .bl true) (fun _ _ _ => False) rfl hr e0 (hbind s (.ref a)) (.cons rfl .nil) ⟨a, ns, rfl, seq, hl, fun _ => rfl⟩) fun r s' h => ?_
  cases r with
  | error e => obtain ⟨_, _, _, _, _, _, _, _, _, _, _, _, z⟩ := h; exact z.elim
  | ok fl =>
    cases fl with
    | ret u =>
      obtain ⟨v, H', os, bare, un, hok', r', rfl⟩ := h
      obtain rfl : u = Value.bool true := r'
      refine ⟨rfl, OldK.of_keep fun b o e => ?_, os, bare⟩
      by_cases q : H b = none
      · exact un.keep b o e q (by simp [frs]) (by simp)
      · obtain ⟨_, o2, u, h2⟩ := only b q
        have e1 := (ok b _ h2).1
        rw [e] at e1
        cases e1
        exact (hok' b _ (un.frzs b o (.lst u) h2)).1
    | next => exact h.elim
    | brk => exact h.elim
    | cont => exact h.elim
theorem law_run {k : Nat} {fa a : Addr} {fd : FuncData} {x : Str} {s : Shared} {vs : List Value} {ns : List Int} (kin : K.In s.heap) (hns : s.heap.Ns mainGlobals mg) (hb : s.heap.Ns builtinsNs mb) (hbb : ∀ y : Str, y ≠ "__name__" → mb y = bootBuiltins y) (hlim : s.heap.NoLimit) (hgen : s.gens = #[])
    (ho : s.heap.get? a = some { cls := .type "list", data := .seq vs.toArray }) (hi : IntsAre vs ns) (hl : ns.length ≤ 63) (hr : Room k callerA) (F : ∀ base : Heap, K.In base → base.Ns mainGlobals mg → FnG P w K mg base k fa fd [x] (spLaw K)) (hbind : ∀ (s : Shared) (u : Value), BindsTo s fd ⟨[u], []⟩ [(x, u)]) :
    codeAny (model P w) callerA (.call (.ref fa) ⟨[.ref a], []⟩) (fun r s' => r = .ok (.ret (.bool true)) ∧ OldK s.heap s'.heap ∧ s'.os = s.os ∧ AllBare s'.gens) s := by
  have rv := vals_ints hi
  have big : ns.length ≤ sizeLine := Nat.le_trans hl (by rw [sizeLine_eq]; decide)
  by_cases hk : K.lookup a = none
  · refine law_core (H := fun b => if b = a then some (.frz { cls := .type "list", data := .seq vs.toArray } (.lst (ns.map V.int))) else none) kin hns hb hbb hlim hgen ho hl hr F hbind (fun b z => ?_) (.inl (.inr ⟨_, if_pos rfl⟩)) (fun b u z => ?_) fun _ => hk
    · by_cases e : b = a
      · exact ⟨e, _, _, if_pos e⟩
      · exact absurd (if_neg e) z
    · by_cases e : b = a
      · have z2 := (if_pos e).symm.trans z
        cases z2
        subst e
        exact ⟨ho, by rw [List.length_map]; exact big, vs, _, rv, ho⟩
      · have z2 := (if_neg e).symm.trans z
        cases z2
  · obtain ⟨o, ek⟩ := Option.ne_none_iff_exists'.mp hk
    have e := kin a o ek
    rw [ho] at e
    cases e
    exact law_core (H := fun _ => none) kin hns hb hbb hlim hgen ho hl hr F hbind (fun b z => absurd rfl z) (.inr ⟨_, vs.toArray, _, ek, rfl, rfl, rfl, by rw [List.size_toArray, hi.length]; exact big, by simpa using rv⟩) (fun b u z => nomatch z) fun z => absurd rfl z
/-- THE END of a law's row -/
theorem law_end {l : PySem.W.OpenLaw} {k : Nat} {q : Program} {loose : List Str} {XP : (Str → Option Value) → Heap → Prop} {YP : World → Heap → Prop} {d : DefRec} {Kf : Params → PySem.W.Frag} {x : Str} (hn : l.most = some 63) (hdf : d.params.defaults = []) (hr : Room k callerA) (hY : ∀ (w : World) (h : Heap), YP w h → (Kf w.params).In h)
    (F : ∀ (w : World) (mg : Str → Option Value) (fa : Addr) (h : Heap), (Kf w.params).In h → h.Ns mainGlobals mg → mg d.name = some (.ref fa) → ∃ fd : FuncData, (∀ (s : Shared) (u : Value), BindsTo s fd ⟨[u], []⟩ [(x, u)]) ∧
      ∀ base : Heap, (Kf w.params).In base → base.Ns mainGlobals mg → FnG l.prog w (Kf w.params) mg base k fa fd [x] (spLaw (Kf w.params))) :
    PySem.W.WalkO q loose XP YP l.row.toRowW d [] (fun f vs => PySem.call f vs) := by
  refine Att.attach_callB hn hdf fun w s₀ s₁ mg mb fa o pm cd doc a vs ns Gr Y ho hd hcd hmg hobj hi hl _ hg => ?_
  obtain ⟨fd, hb, hF⟩ := F w mg fa _ (hY w _ Y) Gr.T.g hmg
  exact law_run (hY w _ Y) Gr.T.g Gr.T.b Gr.T.builtins Gr.T.nolimit hg hobj hi hl hr hF hb
end

/-- a call of a def by its bare promise -/
theorem pe_callG {X : Cx} {Wx : WX} {k : Nat} {f : Addr} {fd : FuncData} {ps : List Str} {sp : Sp} {x : Str} {p pos : Pos} {e : Expr} {es : List Expr} {t : TA} (F : FnG X.prog X.w X.K X.mg X.base k f fd ps sp) (hgd : X.A.guards = some []) (hr : Room k X.A) (tk : Takes X Wx) (hg : Gl X x) (hm : X.mg x = some (.ref f)) (hk : PySem.W.keepIn X.K (.ref f) = true)
    (hb : Binds X.K fd ps []) (ha : PA X (e :: es) t) (hdb : (x == ("__debug__" : Str)) = false) (he : starEach (e :: es) X.env = (false, eval e X.env) :: starEach es X.env := by rfl) (hpl : (backTo pos (starEach es X.env)).any (·.1) = false := by rfl) :
    PE X (.Call (.Name x p) (e :: es) [] pos) (fun σ H Q => t σ H fun vs H1 => sp vs H1 Q (WE Wx σ)) :=
  ⟨fun pins s σ H Q I h => by
    refine wpAny_Call_Name_kw (ld_glob I hg hm ?_ hdb)
    refine PySem.W.callWith_K (h₀ := X.base) I.ok.mod.kin hk (thn (ha.run pos pins s σ H _ I h) fun us s1 ⟨vs, H1, I1, r1, q1⟩ => ⟨I1.kIn, ?_⟩) he hpl
    have hb1 := hb s1 us I1.kIn (by rw [List.append_nil, ← r1.length]; exact F.len _ _ _ _ q1)
    rw [List.append_nil] at hb1
    exact run_call F hgd hr tk I1 hb1 r1 q1⟩
/-- the law's def: its source is made, then its body over data -/
theorem law_def {P : Program} {w : World} {K : PySem.W.Frag} {mg : Str → Option Value} {base : Heap} {k : Nat} {f ff : Addr} {fd fdf : FuncData} {st : Stmt} {N NR : List Str} {fn x0 x1 : Str} {px p p2 p3 px' : Pos} {rest : List Stmt} {b : Env → W Out} (F : Fun K "law" "law" st f fd) (S : FnScope N [x0] (defScope st))
    (hst : defBody st = .Assign [.Name x1 px] (.Call (.Name fn p) [.Name x0 p2] [] p3) px' :: rest) (hN : N = x0 :: x1 :: NR) (hf : (defScope st).names.lookup fn = some .globalImplicit) (hx0 : (defScope st).names.lookup x0 = some .local) (hx1 : Loc (defScope st) x1)
    (hd0 : (x0 == ("__debug__" : Str)) = false) (hc0 : (x0 == ("__classdict__" : Str)) = false) (hdf : (fn == ("__debug__" : Str)) = false)
    (GF : FnG P w K mg base k ff fdf [x0] (spFeed K)) (gF : mg fn = some (.ref ff)) (kF : PySem.W.keepIn K (.ref ff) = true) (bF : Binds K fdf [x0] [])
    (body : ∀ (cdv : Value) (A : Around) (outer : List PySem.Env) (s : Shared) (H : Hp) (E : XK) (Wx : WX), A.guards = some [] → Room k (A.deeper (envOfC "law" (defScope st) s.heap.objs.size f cdv)) → Takes (cxOf (L2.CX P w) P w K mg base N "law" (defScope st) f cdv A outer s H E) Wx →
      PassesOwn (model P w) (A.deeper (envOfC "law" (defScope st) s.heap.objs.size f cdv)) (envOfC "law" (defScope st) s.heap.objs.size f cdv) (cxOf (L2.CX P w) P w K mg base N "law" (defScope st) f cdv A outer s H E).xe → Ss penG (cxOf (L2.CX P w) P w K mg base N "law" (defScope st) f cdv A outer s H E) Wx rest b)
    (holds : b (.un :: .pen :: List.replicate NR.length .un) n0 (fun o _ => ∃ ρ, o = .rt (.bl true) ρ) (fun _ _ => False)) : FnG P w K mg base (k + 1) f fd [x0] (spLaw K) := by
  subst hN
  refine FnG.of_body F S (fun vs H Q E ⟨a, ns, e, _⟩ => by rw [e]; rfl) fun cdv A outer s H vs Q E hg hr ⟨a, ns, e, hS, hl, q⟩ => ?_
  subst e
  have hb := body cdv A outer s H E (fun cls d _ H => E cls d H) hg hr (L2.takes_of rfl rfl rfl rfl) (passes_of rfl)
  rw [hst]
  refine ⟨_, pss_cons (ps_set (i := 1) S.nd rfl hx1 (pe_callG (Wx := fun cls d _ H => E cls d H) GF hg hr (L2.takes_of rfl rfl rfl rfl) hf gF kF bF (pa_cons (pe_var (i := 0) rfl (.inl hx0) hd0 hc0) pa_nil) hdf)) hb, ?_⟩
  refine ⟨.ref a, rfl, a, ns, rfl, hS, hl, fun H' p b hpb sm hp hb' => ?_⟩
  have hlen : (L2.start (x0 :: x1 :: NR) [V.ref a]).set 1 (some (.ref p)) = some (.ref a) :: some (.ref p) :: List.replicate NR.length none := by
    unfold L2.start
    show (some (V.ref a) :: (List.replicate ((NR.length + 1 + 1) - 1) none)).set 1 _ = _
    rw [Nat.add_sub_cancel, List.replicate_succ]
    rfl
  have gp : penG.inv H' p b 0 := ⟨hpb, ns, 0, 0, hp, hb', hl, Int.le_refl _, Int.le_refl _, Int.le_refl _⟩
  show tS penG _ _ _ _ ((L2.start (x0 :: x1 :: NR) [V.ref a]).set 1 (some (.ref p))) H'
  rw [hlen]
  refine ⟨⟨fun _ => False, H', some (p, b), fun _ => False, fun _ => False⟩, .un :: .pen :: List.replicate NR.length .un, n0, _, _, ⟨by simp, fun i sv e => ?_, fun i sv x e ho => ?_, fun i j sv sv' x _ e _ ho => ?_, fun _ h => h.elim, fun _ _ e _ => e, fun z e => ?_, fun _ h => h.elim, (fun _ h => nomatch h), (fun _ _ e => nomatch e), fun _ h => h.elim, fun _ _ => rfl⟩, holds, ⟨fun ρ' k' σ' S' H2 z _ _ => ?_, fun d k' v σ' ρ' S' H2 z _ _ r => ?_, fun ρ' k' σ' S' H2 z _ _ => ?_, fun ρ' k' σ' S' H2 z _ _ => ?_⟩, fun _ _ _ _ _ _ _ _ z => z.elim⟩
  · match i, e with
    | 0, e => cases e; trivial
    | 1, e => cases e; exact ⟨(p, b), rfl, rfl⟩
    | i + 2, e =>
      have e : (List.replicate NR.length SV.un)[i]? = some sv := e
      rw [List.getElem?_replicate] at e
      split at e
      · cases e; trivial
      · cases e
  · exfalso
    match i, e with
    | 0, e => cases e; cases ho
    | 1, e => cases e; cases ho
    | i + 2, e =>
      have e : (List.replicate NR.length SV.un)[i]? = some sv := e
      rw [List.getElem?_replicate] at e
      split at e
      · cases e; cases ho
      · cases e
  · exfalso
    match i, e with
    | 0, e => cases e; cases ho
    | 1, e => cases e; cases ho
    | i + 2, e =>
      have e : (List.replicate NR.length SV.un)[i]? = some sv := e
      rw [List.getElem?_replicate] at e
      split at e
      · cases e; cases ho
      · cases e
  · cases e
    exact ⟨gp, fun z => z, fun z => z, (by show H' p ≠ none; rw [hp]; exact fun z => (nomatch z)), (by show H' b ≠ none; rw [hb']; exact fun z => (nomatch z))⟩
  · obtain ⟨_, z⟩ := z; cases z
  · obtain ⟨_, z⟩ := z
    cases z
    cases r
    exact q H2
  · obtain ⟨_, z⟩ := z; cases z
  · obtain ⟨_, z⟩ := z; cases z
end PL

/-! The layer: written dicts, calls by names. -/
namespace PL
open PySem PySem.Spec PyProof.Rows L2
section
variable {G : PenK} {X : Cx} {Wx : WX}
theorem e_dic0 {pos : Pos} : E G X Wx (.Dict [] [] pos) (fun _ => ret (.dic [])) :=
  weakE pe_dnewK fun σ H Q ⟨c, ρ, n, P, PX, I, q, hg, hx⟩ => fun p hp => hg.new (d := .dic []) q I hp fun g => ⟨p, [], rfl, ⟨.inr rfl, .inl upd_same⟩, rfl⟩
/-- {k: v}, both written -/
theorem e_dic1 {k v : Expr} {pos : Pos} (kk : Key) {d : D} {x : V} (hk : PE X k (tC (kV kk))) (hv : PE X v (tC x)) (r : ∀ S H, Rep X.K S H d x) : E G X Wx (.Dict [some k] [v] pos) (fun _ => ret (.dic [(kk, d)])) :=
  weakE (pe_disp (pps_cons hk hv pps_nil) rfl rfl (fun z => nomatch z) (by show 1 ≤ 15; decide)) fun σ H Q ⟨c, ρ, n, P, PX, I, q, hg, hx⟩ => fun p hp => by
    refine ⟨upd_same, [(kk, x)], rfl, (by show 1 ≤ 15; decide), ?_⟩
    rw [upd_upd]
    exact hg.new (d := .dic [(kk, d)]) q I hp fun g => ⟨p, [(kk, x)], rfl, ⟨.inr rfl, .inl upd_same⟩, x, [], rfl, r _ _, rfl⟩
end
theorem kbd {K : PySem.W.Frag} {x qual : Str} {st : Stmt} {f : Addr} {fd : FuncData} {ps ks : List Str} {n : Nat} {order : List Nat} (F : Fun K x qual st f fd)
    (h : ∀ (kV doc pm : Value) (an : Option Addr) (cdv ct : Value) (us ws : List Value), us.length = n → ws.length = ks.length → bindArgs (PySem.W.fnOf x qual (defArgs st) (defBody st) (defScope st) .none kV doc pm an cdv ct) ⟨us, ks.zip ws⟩ = pure (ps.zip (pick order (us ++ ws)))) : KBd K fd ps n ks order := by
  obtain ⟨oc, od, kV, doc, pm, an, cdv, ct, osl, rfl, lk, hcd⟩ := F.ex
  exact fun s us ws _ h1 h2 => .of_eq (h kV doc pm an cdv ct us ws h1 h2)
end PL

/-! The layer: enumerate of a list or a tuple; name = [..] on one line. -/
namespace PL
open PySem PySem.Spec PyProof.Rows L2

set_option maxHeartbeats 1000000 in
theorem new_enumB {v : Value} {o : Obj} {HH : Heap → Prop} (B : Begins v o HH) :
    Meets (Builtin.«enumerate.__new__» ⟨[.type "enumerate", v], []⟩) (fun _ R s => HH s.heap ∧ R (.ok (.ret (.ref (s.heap.push o).objs.size)))
      { s with heap := (s.heap.push o).push { cls := .type "enumerate", data := .fields #[.none, .bool false, .ref s.heap.objs.size, rawInt 0, .none, .none] } }) :=
  .of_wp fun prog w A R s hh => by
    obtain ⟨hp, ge, di, tk, oss⟩ := s
    obtain ⟨h1, hR⟩ := hh
    have hsub := sub_enumerate
    have q1 : ∀ {A2 : Around} {E2 : Value → Shared → Prop} {Q2 : Value → Shared → Prop}, Q2 (.ref hp.objs.size) ⟨hp.push o, ge, di, tk, oss⟩ → wpAny (model prog w) A2 (pyIter v) Q2 E2 ⟨hp, ge, di, tk, oss⟩ :=
      fun q => B.iter prog w _ _ ⟨hp, ge, di, tk, oss⟩ _ h1 q
    wp_walk using q1
    refine wpAny_stack_any fun stk => wpAny_pure ?_
    split
    · rename_i cl _ _ _ _ _
      cases (cl == Value.type "enumerate") <;>
      · wp_walk using q1
        exact ⟨_, rfl, hR⟩
    · wp_walk using q1
      exact ⟨_, rfl, hR⟩
theorem call_enumB {prog : Program} {w : World} {A : Around} {E : Value → Shared → Prop} {s : Shared} {v : Value} {o : Obj} {HH : Heap → Prop} {Q : Value → Shared → Prop} (B : Begins v o HH) (h1 : HH s.heap)
    (k : ∀ h', IsEnum h' (s.heap.objs.size + 1) s.heap.objs.size 0 .none → h'.get? s.heap.objs.size = some o → (∀ b x, s.heap.get? b = some x → h'.get? b = some x) → Q (.ref (s.heap.objs.size + 1)) { s with heap := h' }) :
    wpAny (model prog w) A (PySem.call (.type "enumerate") [v]) Q E s := by
  refine callType_new F.called_enumerate (by decide) (F.typeCall_enumerate_1 _) (F.newCall_enumerate_1 _) (fun ob => F.args_object_init_2 ob _) F.entry_enumerate_new (new_enumB B) ⟨h1, ?_⟩
  have hz : (s.heap.push o).objs.size = s.heap.objs.size + 1 := Heap.size_push ..
  show _ ∧ _
  rw [hz]
  have he : IsEnum ((s.heap.push o).push { cls := .type "enumerate", data := .fields #[.none, .bool false, .ref s.heap.objs.size, rawInt 0, .none, .none] }) (s.heap.objs.size + 1) s.heap.objs.size 0 .none := by
    have q := Heap.get?_push_size (s.heap.push o) (o := { cls := .type "enumerate", data := .fields #[.none, .bool false, .ref s.heap.objs.size, rawInt 0, .none, .none] }) rfl
    rw [hz] at q
    exact q
  exact ⟨⟨_, he, rfl⟩, k _ he (Heap.get?_push_of_some _ (Heap.get?_push_size _ B.free)) fun b x e => Heap.get?_push_of_some _ (Heap.get?_push_of_some _ e)⟩

/-- the tuple at a, each item in a new pair -/
def Iet (K : PySem.W.Frag) (a : Addr) : It :=
  ⟨fun i H => ∃ (xs : List V) (x : V), SqT K H a xs ∧ xs[i]? = some x, fun i H v H' => ∃ T x o, v = .ref T ∧ H T = none ∧ o.dict = none ∧ H' = upd H T (.frz o (.tup [.int (i : Nat), x])) ∧ ∀ xs, SqT K H a xs → xs[i]? = some x, fun i H => ∃ xs : List V, SqT K H a xs ∧ xs.length ≤ i⟩
/-- the list at a, each item in a new pair -/
def Iel (K : PySem.W.Frag) (a : Addr) : It :=
  ⟨fun i H => ∃ (xs : List V) (x : V), SqL K H a xs ∧ xs[i]? = some x, fun i H v H' => ∃ T x o, v = .ref T ∧ H T = none ∧ o.dict = none ∧ H' = upd H T (.frz o (.tup [.int (i : Nat), x])) ∧ ∀ xs, SqL K H a xs → xs[i]? = some x, fun i H => ∃ xs : List V, SqL K H a xs ∧ xs.length ≤ i⟩
theorem turn_enumL {P : Program} {w : World} {K : PySem.W.Frag} {elts : List Expr} {kk : Nat} {tpos : Pos} (a e it : Addr) :
    Turn P w K (.Tuple elts kk tpos) (Iel K a) [e, it] e (fun i h => (∃ old, IsEnum h e it ((i : Nat) : Int) old) ∧ h.IsListIter it a i ∧ e ≠ it) where
  mem := by simp
  obj := fun i h st b hb => by
    obtain ⟨⟨old, he⟩, ⟨o, ho, hc, hd⟩, _⟩ := st
    rcases (show b = e ∨ b = it by simpa using hb) with z | z
    · rw [z]
      exact ⟨_, he, fun v q => by cases q⟩
    · rw [z]
      exact ⟨o, ho, fun v q => by rw [hd] at q; cases q⟩
  keep := fun i h h' st k => let ⟨⟨old, he⟩, hi, hne⟩ := st; ⟨⟨old, k e (by simp) _ he⟩, hi.at fun o q => k it (by simp) o q, hne⟩
  item := by
    intro X hP hw hK hc i pins s σ H E I hf st hg
    subst hP hw hK
    obtain ⟨⟨old, he⟩, hit, hne⟩ := st
    obtain ⟨xs, x, hq, hx⟩ := hg
    obtain ⟨its, rv, p, hz⟩ := I.list hq
    obtain ⟨u, hu, ru⟩ := rv.get hx
    have hel : e < s.heap.objs.size := Heap.lt_size he
    have hil : it < s.heap.objs.size := by obtain ⟨_, q, _⟩ := hit; exact Heap.lt_size q
    refine wpAny_pyNext_enum_item he hit p.isList (x := u) (by simpa using hu) hne fun h' ho hit' hT hsz hk => ?_
    refine ⟨_, rfl, wpAny_letOwnedTupleGo_enum (s := { s with heap := h', toks := s.toks + 1 }) ho fun h'' he' sb => ?_⟩
    have hT2 : h''.get? s.heap.objs.size = some { cls := .type "tuple", data := .seq #[.int i s.toks, u] } := (sb.2 _ (Nat.ne_of_gt hel)).trans hT
    have new : ObjOk X.prog X.w (upd H s.heap.objs.size (.frz { cls := .type "tuple", data := .seq #[.int i s.toks, u] } (.tup [.int (i : Nat), x]))) h'' s.heap.objs.size (.frz { cls := .type "tuple", data := .seq #[.int i s.toks, u] } (.tup [.int (i : Nat), x])) :=
      ⟨hT2, by show 2 ≤ sizeLine; decide, [.int i s.toks, u], .cons ⟨_, rfl⟩ (.cons ru .nil), ⟨_, hT2, rfl, _, rfl⟩⟩
    have I1 : Inv X pins σ (upd H s.heap.objs.size (.frz { cls := .type "tuple", data := .seq #[.int i s.toks, u] } (.tup [.int (i : Nat), x]))) { s with heap := h'', toks := s.toks + 1 } :=
      I.turnedNew (ch := [e, it]) (fun b ob hb q => (sb.2 b (fun z => hb (by simp [z]))).trans (hk b ob (fun z => hb (by simp [z])) (fun z => hb (by simp [z])) q)) hf (Nat.le_refl _) new
    refine ⟨.ref s.heap.objs.size, _, I1, rfl, ⟨_, x, _, rfl, I.hok.fresh (Nat.le_refl _), rfl, rfl, fun ys hy => by rw [I.list_inj hy hq]; exact hx⟩, ⟨⟨u, ?_⟩, hit'.at fun o q => (sb.2 it (Ne.symm hne)).trans q, hne⟩, fun b hb => ?_⟩
    · have e1 : ((i + 1 : Nat) : Int) = (i : Int) + 1 := by omega
      rw [e1]
      exact he'
    · have hb2 : b < s.heap.objs.size := by
        rcases (show b = e ∨ b = it by simpa using hb) with z | z
        · exact z ▸ hel
        · exact z ▸ hil
      rw [upd_ne (Nat.ne_of_lt hb2)]
      exact (hf b hb).1
  done := by
    intro X hP hw hK hc i pins s σ H E I hf st hg
    subst hP hw hK
    obtain ⟨⟨old, he⟩, hit, hne⟩ := st
    obtain ⟨xs, hq, hx⟩ := hg
    obtain ⟨its, rv, p, hz⟩ := I.list hq
    obtain ⟨f0, f1, f2, f3, f4, f5⟩ := hf it (by simp)
    have hl := rv.length
    exact wpAny_pyNext_enum_end (I.ok.hd hc) he hit p.isList (by simp; omega) fun h' eb => ⟨rfl, I.turned (t' := s.toks) (fun b o hb q => eb b o hb q) f0 f1 f3 f4 f5⟩
  self := fun A i s Q E st h => let ⟨⟨_, he⟩, _⟩ := st; wpAny_pyIter_enum he h
theorem enum_not_tuple {h : Heap} {e it a : Addr} {i : Int} {old : Value} {its : Array Value} (he : IsEnum h e it i old) (ht : h.IsTuple a its) : e ≠ a := fun z => by
  subst z
  obtain ⟨o, e1, e2, n, e3⟩ := ht
  have he : h.get? e = some _ := he
  rw [he] at e1
  cases e1
  cases e3
theorem turn_enumT {P : Program} {w : World} {K : PySem.W.Frag} {elts : List Expr} {kk : Nat} {tpos : Pos} (a e it : Addr) :
    Turn P w K (.Tuple elts kk tpos) (Iet K a) [e, it] e (fun i h => (∃ old, IsEnum h e it ((i : Nat) : Int) old) ∧ h.IsTupleIter it a i ∧ e ≠ it ∧ a ≠ it) where
  mem := by simp
  obj := fun i h st b hb => by
    obtain ⟨⟨old, he⟩, ⟨o, ho, hc, hd⟩, _⟩ := st
    rcases (show b = e ∨ b = it by simpa using hb) with z | z
    · rw [z]
      exact ⟨_, he, fun v q => by cases q⟩
    · rw [z]
      exact ⟨o, ho, fun v q => by rw [hd] at q; cases q⟩
  keep := fun i h h' st k => let ⟨⟨old, he⟩, hi, hne⟩ := st; ⟨⟨old, k e (by simp) _ he⟩, hi.at fun o q => k it (by simp) o q, hne⟩
  item := by
    intro X hP hw hK hc i pins s σ H E I hf st hg
    subst hP hw hK
    obtain ⟨⟨old, he⟩, hit, hne, hai⟩ := st
    obtain ⟨xs, x, hq, hx⟩ := hg
    obtain ⟨its, rv, p, hz⟩ := I.tuple hq
    have p2 : s.heap.IsTuple a its.toArray := p
    have hel : e < s.heap.objs.size := Heap.lt_size he
    have hil : it < s.heap.objs.size := by obtain ⟨_, q, _⟩ := hit; exact Heap.lt_size q
    have hea := enum_not_tuple he p2
    have hlt : i < its.toArray.size := by
      obtain ⟨u, hu, _⟩ := rv.get hx
      have := (List.getElem?_eq_some_iff.mp hu).1
      simpa using this
    refine wpAny_pyNext_enum_itemD (Draws.tuple (prog := X.prog) (w := X.w) (A := X.A.in1) (I.ok.hd hc) it a hai its.toArray) he (show s.heap.IsTupleIter it a i ∧ s.heap.IsTuple a its.toArray from ⟨hit, p2⟩) hlt hne (by simp [hne, hea]) fun u h' tk hu ho hst hT hsz hk => ?_
    obtain ⟨u', hu', ru⟩ := rv.get hx
    obtain rfl : u' = u := by
      have hu : its.toArray[i]? = some u := hu
      rw [List.getElem?_toArray, hu'] at hu
      exact Option.some.inj hu
    refine ⟨_, rfl, wpAny_letOwnedTupleGo_enum (s := { s with heap := h', toks := tk + 1 }) ho fun h'' he' sb => ?_⟩
    have hT2 : h''.get? s.heap.objs.size = some { cls := .type "tuple", data := .seq #[.int i tk, u'] } := (sb.2 _ (Nat.ne_of_gt hel)).trans hT
    have new : ObjOk X.prog X.w (upd H s.heap.objs.size (.frz { cls := .type "tuple", data := .seq #[.int i tk, u'] } (.tup [.int (i : Nat), x]))) h'' s.heap.objs.size (.frz { cls := .type "tuple", data := .seq #[.int i tk, u'] } (.tup [.int (i : Nat), x])) :=
      ⟨hT2, by show 2 ≤ sizeLine; decide, [.int i tk, u'], .cons ⟨_, rfl⟩ (.cons ru .nil), ⟨_, hT2, rfl, _, rfl⟩⟩
    have I1 : Inv X pins σ (upd H s.heap.objs.size (.frz { cls := .type "tuple", data := .seq #[.int i tk, u'] } (.tup [.int (i : Nat), x]))) { s with heap := h'', toks := tk + 1 } :=
      I.turnedNew (ch := [e, it]) (fun b ob hb q => (sb.2 b (fun z => hb (by simp [z]))).trans (hk b ob (fun z => hb (by simp [z])) (fun z => hb (by simp [z])) q)) hf (Nat.le_refl _) new
    refine ⟨.ref s.heap.objs.size, _, I1, rfl, ⟨_, x, _, rfl, I.hok.fresh (Nat.le_refl _), rfl, rfl, fun ys hy => by rw [I.tuple_inj hy hq]; exact hx⟩, ⟨⟨u', ?_⟩, hst.1.at fun o q => (sb.2 it (Ne.symm hne)).trans q, hne, hai⟩, fun b hb => ?_⟩
    · have e1 : ((i + 1 : Nat) : Int) = (i : Int) + 1 := by omega
      rw [e1]
      exact he'
    · have hb2 : b < s.heap.objs.size := by
        rcases (show b = e ∨ b = it by simpa using hb) with z | z
        · exact z ▸ hel
        · exact z ▸ hil
      rw [upd_ne (Nat.ne_of_lt hb2)]
      exact (hf b hb).1
  done := by
    intro X hP hw hK hc i pins s σ H E I hf st hg
    subst hP hw hK
    obtain ⟨⟨old, he⟩, hit, hne, hai⟩ := st
    obtain ⟨xs, hq, hx⟩ := hg
    obtain ⟨its, rv, p, hz⟩ := I.tuple hq
    have p2 : s.heap.IsTuple a its.toArray := p
    obtain ⟨f0, f1, f2, f3, f4, f5⟩ := hf it (by simp)
    have hl := rv.length
    have hh : X.A.in1.handled = none := I.ok.hd hc
    have hd : Draws X.prog X.w X.A.in1 it [it, a] 0 (fun _ _ => True) (fun _ h => h.IsTupleIter it a i ∧ h.IsTuple a its.toArray) :=
      ⟨fun _ _ st => let ⟨o, ho, _⟩ := st.1; ⟨o, ho⟩, fun _ _ _ st hk => ⟨st.1.at fun o e => hk it (by simp) o e, st.2.at fun o e => hk a (by simp) o e⟩, fun _ _ _ _ hi => absurd hi (Nat.not_lt_zero _), fun s Q E st hE => wpAny_nextOf_tuple_end hh st.1 st.2 (by simp; omega) hE⟩
    exact wpAny_pyNext_enum_endD hd he ⟨hit, p2⟩ fun h' eb => ⟨rfl, I.turned (t' := s.toks) (fun b o hb q => eb b o hb q) f0 f1 f3 f4 f5⟩
  self := fun A i s Q E st h => let ⟨⟨_, he⟩, _⟩ := st; wpAny_pyIter_enum he h
theorem pi_enumU {X : Cx} {e : Expr} {te : TE} {p pos tpos : Pos} {elts : List Expr} {kk : Nat} (hg : Gl X "enumerate") (hm : X.mg "enumerate" = none) (he : PE X e te) (hs : starEach [e] X.env = [(false, eval e X.env)] := by rfl) :
    PI X (.Tuple elts kk tpos) (.Call (.Name "enumerate" p) [e] [] pos) (fun σ H R => te σ H fun v H1 => ∃ a xs, v = .ref a ∧ ((SqL X.K H1 a xs ∧ R (Iel X.K a) H1) ∨ (SqT X.K H1 a xs ∧ R (Iet X.K a) H1))) := by
  refine ⟨fun pins s σ H R I h => ?_⟩
  refine Call_ (ld_blt I hg hm boot_enumerate (PyProof.Rows.callWith_type1 (thn ((pa_cons he pa_nil hs).run pos pins s σ H (fun vs H1 => match vs with | [v] => ∃ a xs, v = .ref a ∧ ((SqL X.K H1 a xs ∧ R (Iel X.K a) H1) ∨ (SqT X.K H1 a xs ∧ R (Iet X.K a) H1)) | _ => False) I h) fun us s1 ⟨vs, H1, I1, r1, q1⟩ => ?_) hs rfl))
  obtain ⟨v, e0, a, xs, ex, q⟩ : ∃ v, vs = [v] ∧ ∃ a xs, v = .ref a ∧ ((SqL X.K H1 a xs ∧ R (Iel X.K a) H1) ∨ (SqT X.K H1 a xs ∧ R (Iet X.K a) H1)) := by
    match vs, q1 with
    | [v], q1 => exact ⟨v, rfl, q1⟩
  subst e0 ex
  cases r1 with
  | cons r rr =>
    cases rr
    cases r
    have fp2 : ∀ b ∈ [s1.heap.objs.size + 1, s1.heap.objs.size], FpOk X pins H1 b := fun b hb => by
      have hle : s1.heap.objs.size ≤ b := by
        rcases (show b = s1.heap.objs.size + 1 ∨ b = s1.heap.objs.size by simpa using hb) with z | z <;> omega
      exact I1.fpOk hle (I1.hok.fresh hle)
    rcases q with ⟨hq, q⟩ | ⟨hq, q⟩
    · obtain ⟨its, rv, p', hz⟩ := I1.list hq
      refine call_enumerate_list p'.isList fun h' he hit hsz hk => wpAny_pyIter_enum he ?_
      exact ⟨s1.heap.objs.size + 1, [s1.heap.objs.size + 1, s1.heap.objs.size], _, _, H1, rfl, I1.kept (t' := s1.toks) hk, turn_enumL a (s1.heap.objs.size + 1) s1.heap.objs.size, ⟨⟨.none, he⟩, hit, Nat.succ_ne_self _⟩, fp2, q⟩
    · obtain ⟨its, rv, p', hz⟩ := I1.tuple hq
      have p2 : s1.heap.IsTuple a its.toArray := p'
      have hla : a < s1.heap.objs.size := by obtain ⟨_, q, _⟩ := p2; exact Heap.lt_size q
      refine call_enumB (begins_tuple a its.toArray) p2 fun h' he hit hk => wpAny_pyIter_enum he ?_
      exact ⟨s1.heap.objs.size + 1, [s1.heap.objs.size + 1, s1.heap.objs.size], _, _, H1, rfl, I1.kept (t' := s1.toks) hk, turn_enumT a (s1.heap.objs.size + 1) s1.heap.objs.size, ⟨⟨.none, he⟩, ⟨_, hit, rfl, rfl⟩, Nat.succ_ne_self _, Nat.ne_of_lt hla⟩, fp2, q⟩
section
variable {G : PenK} {X : Cx} {Wx : WX}
def enumFrom (i : Nat) : List D → List D
  | [] => []
  | x :: xs => .tup [.int i, x] :: enumFrom (i + 1) xs
theorem enumFrom_len : ∀ (i : Nat) (xs : List D), (enumFrom i xs).length = xs.length
  | _, [] => rfl
  | i, x :: xs => by show _ + 1 = _ + 1; rw [enumFrom_len]
theorem enumFrom_get : ∀ (j i : Nat) (xs : List D), (enumFrom j xs)[i]? = (xs[i]?).map fun x => .tup [.int ((j + i : Nat) : Int), x]
  | _, _, [] => rfl
  | j, 0, x :: xs => rfl
  | j, i + 1, x :: xs => by
    show (enumFrom (j + 1) xs)[i]? = (xs[i]?).map _
    rw [enumFrom_get, show j + 1 + i = j + (i + 1) by omega]
def enumD : D → W (List D)
  | .lst xs => ret (enumFrom 0 xs)
  | .tup xs => ret (enumFrom 0 xs)
  | _ => stuck
theorem walks_enumL {K : PySem.W.Frag} {S : Addr → Prop} {H : Hp} {a : Addr} {xs : List D} {vs : List V} (h : RdL S H a vs) (r : Reps K S H xs vs) : Walks G K (Iel K a) S H (enumFrom 0 xs) := fun c ρ σ H2 n i g I => by
  have h2 := h.grow g
  have r2 := Reps.grow g _ _ r
  rw [enumFrom_len]
  refine ⟨fun hi => ?_, fun hi => ⟨vs, h2.sq, by rw [r2.len]; exact hi⟩⟩
  have hx : xs[i]? = some xs[i] := List.getElem?_eq_getElem hi
  obtain ⟨v, e1, e2⟩ := Reps.at r2 hx
  refine ⟨⟨vs, v, h2.sq, e1⟩, fun u H' ⟨T, x, o, eu, hT, od, eH, y⟩ => ?_⟩
  have ex := y vs h2.sq
  rw [e1] at ex
  cases ex
  subst eu eH
  obtain ⟨IS, gS⟩ := I.laid (o := .frz o (.tup [.int (i : Nat), v])) hT
  exact ⟨_, .tup [.int (i : Nat), xs[i]], gS, IS, by rw [enumFrom_get, hx]; simp, T, [.int (i : Nat), v], rfl,   .inl ⟨.inr rfl, o, upd_same, od⟩, (by show 2 ≤ sizeLine; decide), _, _, rfl, rfl, _, _, rfl, Rep.grow gS _ _ e2, rfl⟩
theorem walks_enumT {K : PySem.W.Frag} {S : Addr → Prop} {H : Hp} {a : Addr} {xs : List D} {vs : List V} (h : RdT K S H a vs) (r : Reps K S H xs vs) : Walks G K (Iet K a) S H (enumFrom 0 xs) := fun c ρ σ H2 n i g I => by
  have h2 := h.grow g
  have r2 := Reps.grow g _ _ r
  rw [enumFrom_len]
  refine ⟨fun hi => ?_, fun hi => ⟨vs, h2.sq, by rw [r2.len]; exact hi⟩⟩
  have hx : xs[i]? = some xs[i] := List.getElem?_eq_getElem hi
  obtain ⟨v, e1, e2⟩ := Reps.at r2 hx
  refine ⟨⟨vs, v, h2.sq, e1⟩, fun u H' ⟨T, x, o, eu, hT, od, eH, y⟩ => ?_⟩
  have ex := y vs h2.sq
  rw [e1] at ex
  cases ex
  subst eu eH
  obtain ⟨IS, gS⟩ := I.laid (o := .frz o (.tup [.int (i : Nat), v])) hT
  exact ⟨_, .tup [.int (i : Nat), xs[i]], gS, IS, by rw [enumFrom_get, hx]; simp, T, [.int (i : Nat), v], rfl,   .inl ⟨.inr rfl, o, upd_same, od⟩, (by show 2 ≤ sizeLine; decide), _, _, rfl, rfl, _, _, rfl, Rep.grow gS _ _ e2, rfl⟩
theorem w_enum {elts : List Expr} {kk : Nat} {tpos p pos : Pos} {e : Expr} {g : Env → W D} (hm : X.mg "enumerate" = none) (h : E G X Wx e g) (hg : Gl X "enumerate" := by rfl) (hs : starEach [e] X.env = [(false, eval e X.env)] := by rfl) :
    Wk G X Wx (.Tuple elts kk tpos) (.Call (.Name "enumerate" p) [e] [] pos) (fun ρ => bnd (g ρ) enumD) :=
  weakI (pi_enumU hg hm h hs) fun σ H R ⟨c, ρ, n, P, PX, I, q, hg, hx⟩ => tE.bnd I q hx fun d k v S' H' p g I' hx' r => by
    cases d with
    | lst xs =>
      obtain ⟨a, vs, rfl, r1, z, q1⟩ := r
      exact ⟨a, vs, rfl, .inl ⟨r1.sq, hg _ k S' H' _ p g I' (walks_enumL r1 q1)⟩⟩
    | tup xs =>
      obtain ⟨a, vs, rfl, r1, z, q1⟩ := r
      exact ⟨a, vs, rfl, .inr ⟨r1.sq, hg _ k S' H' _ p g I' (walks_enumT r1 q1)⟩⟩
    | _ => exact p.elim
end
end PL

/-! What a mirror does, in plain words: Gen m c Q says that m ends with a value under Q, after at most c draws. -/
namespace PL
open PySem PySem.Spec L2
section
variable {α β : Type}
theorem bnd_ret (a : α) (f : α → W β) : bnd (ret a) f = f a := rfl
theorem bnd_bnd {γ : Type} (m : W α) (f : α → W β) (g : β → W γ) : bnd (bnd m f) g = bnd m fun a => bnd (f a) g := rfl
theorem grd_pos {p : Prop} (h : p) (m : W α) : grd p m = m := by
  funext n P X
  exact propext ⟨fun q => q.2, fun q => ⟨h, q⟩⟩
theorem few_pos {xs : List D} (h : xs.length ≤ sizeLine) (m : W α) : few xs m = m := grd_pos h m
theorem andThen_nx (ρ : Env) (k : Env → W Out) : andThen (ret (.nx ρ)) k = k ρ := rfl
theorem andThen_rt (d : D) (ρ : Env) (k : Env → W Out) : andThen (ret (.rt d ρ)) k = ret (.rt d ρ) := rfl
theorem quiet_ret (a : α) : quiet (ret a) = ret a := rfl
theorem ite_bnd {p : Prop} [Decidable p] (m m' : W α) (f : α → W β) : bnd (if p then m else m') f = if p then bnd m f else bnd m' f := by split <;> rfl

def Gen (m : W α) (c : Nat) (Q : α → Prop) : Prop := ∀ (n : Nt) (P : α → Nt → Prop) (PX : Exc → Nt → Prop), n.n + c ≤ drawMax → (∀ a k, Q a → n.n ≤ k → k ≤ n.n + c → P a ⟨k, n.μ⟩) → m n P PX
theorem Gen.ret {a : α} {Q : α → Prop} (h : Q a) : Gen (PL.ret a) 0 Q := fun n P PX _ k => k a n.n h (Nat.le_refl _) (Nat.le_refl _)
theorem Gen.bnd {m : W α} {f : α → W β} {c d : Nat} {Q : α → Prop} {R : β → Prop} (h : Gen m c Q) (hf : ∀ a, Q a → Gen (f a) d R) : Gen (PL.bnd m f) (c + d) R := fun n P PX hn k =>
  h n _ PX (by omega) fun a j q h1 h2 => hf a q ⟨j, n.μ⟩ P PX (by show j + d ≤ _; omega) fun b i r h3 h4 => k b i r (Nat.le_trans h1 h3) (by have h4 : i ≤ j + d := h4; omega)
theorem Gen.le {m : W α} {c d : Nat} {Q R : α → Prop} (h : Gen m c Q) (hc : c ≤ d) (hq : ∀ a, Q a → R a) : Gen m d R := fun n P PX hn k => h n P PX (by omega) fun a j q h1 h2 => k a j (hq a q) h1 (by omega)
theorem Gen.to {m : W α} {c : Nat} {Q R : α → Prop} (h : Gen m c Q) (hq : ∀ a, Q a → R a) : Gen m c R := h.le (Nat.le_refl _) hq
theorem Gen.up {m : W α} {c d : Nat} {Q : α → Prop} (h : Gen m c Q) (hc : c ≤ d) : Gen m d Q := h.le hc fun _ q => q
theorem Gen.grd {p : Prop} {m : W α} {c : Nat} {Q : α → Prop} (hp : p) (h : Gen m c Q) : Gen (PL.grd p m) c Q := by rw [grd_pos hp]; exact h
theorem Gen.few {xs : List D} {m : W α} {c : Nat} {Q : α → Prop} (hp : xs.length ≤ sizeLine) (h : Gen m c Q) : Gen (PL.few xs m) c Q := Gen.grd hp h
theorem Gen.quiet {m : W α} {c : Nat} {Q : α → Prop} (h : Gen m c Q) : Gen (PL.quiet m) c Q := fun n P PX hn k => h n P _ hn k
theorem Gen.ite {p : Prop} [Decidable p] {m m' : W α} {c : Nat} {Q : α → Prop} (h1 : p → Gen m c Q) (h2 : ¬ p → Gen m' c Q) : Gen (if p then m else m') c Q := by
  split
  · exact h1 ‹_›
  · exact h2 ‹_›
/-- a value, no draws -/
def Is (m : W α) (a : α) : Prop := Gen m 0 (· = a)
theorem Is.ret (a : α) : Is (PL.ret a) a := Gen.ret rfl
theorem Is.of {m : W α} {a : α} (h : m = PL.ret a) : Is m a := by rw [h]; exact Is.ret a
theorem Is.bnd {m : W α} {f : α → W β} {a : α} {c : Nat} {R : β → Prop} (h : Is m a) (hf : Gen (f a) c R) : Gen (PL.bnd m f) c R := (Gen.bnd h fun b e => by rw [e]; exact hf).up (by omega)
theorem Gen.draw {b : Int} (h0 : 0 < b) (h1 : b < 1073741824) : Gen (drawB b) 1 fun d => ∃ r : Nat, d = .int r ∧ (r : Int) < b := fun n P PX hn k =>
  ⟨by omega, h0, h1, fun r j q1 q2 q3 q4 => k _ j ⟨r.toNat, by rw [Int.toNat_of_nonneg q1], by omega⟩ q3 q4⟩
theorem Gen.drawM {b : Int} (h0 : 0 < b) (h1 : b < 1073741824) : Gen (PL.drawM [.pen, .d (.int b)]) 1 fun d => ∃ r : Nat, d = .int r ∧ (r : Int) < b := Gen.draw h0 h1
end
theorem Gen.call {m : List SV → W D} {args : List SV} {c : Nat} {Q : D → Prop} (h : Gen (m args) c Q) (hc : c ≤ drawMax := by decide) : Gen (callM m args) c Q := fun n P PX hn k => by
  unfold callM
  split
  · exact h n P PX hn k
  · exact h ⟨0, n.μ⟩ _ _ (by show 0 + c ≤ _; omega) fun a j q _ _ => k a n.n q (Nat.le_refl _) (Nat.le_add_right _ _)
theorem callM_ret {m : List SV → W D} {args : List SV} {d : D} (h : m args = PL.ret d) : callM m args = PL.ret d := by
  unfold callM
  rw [h]
  split <;> rfl
theorem runB_eq {len : Nat} {b : Env → W Out} {args : List SV} {d : D} {ρ : Env} (h : b (args ++ List.replicate (len - args.length) .un) = PL.ret (.rt d ρ)) : runB len b args = PL.ret d := by
  unfold runB
  rw [h]
  rfl
theorem Gen.runB {len : Nat} {b : Env → W Out} {args : List SV} {c : Nat} {Q : D → Prop} (h : Gen (b (args ++ List.replicate (len - args.length) .un)) c fun o => ∃ d ρ, o = .rt d ρ ∧ Q d) : Gen (PL.runB len b args) c Q :=
  (Gen.bnd (d := 0) h fun o ⟨d, ρ, e, q⟩ => by rw [e]; exact Gen.ret q).up (by omega)
theorem Gen.andThen {m : W Out} {k : Env → W Out} {c d : Nat} {R : Env → Prop} {Q : D → Prop} (h : Gen m c fun o => (∃ ρ, o = .nx ρ ∧ R ρ) ∨ ∃ d ρ, o = .rt d ρ ∧ Q d) (hk : ∀ ρ, R ρ → Gen (k ρ) d fun o => ∃ d ρ, o = .rt d ρ ∧ Q d) :
    Gen (PL.andThen m k) (c + d) fun o => ∃ d ρ, o = .rt d ρ ∧ Q d :=
  Gen.bnd h fun o z => by
    rcases z with ⟨ρ, e, q⟩ | ⟨x, ρ, e, q⟩
    · rw [e]
      exact hk ρ q
    · rw [e]
      exact (Gen.ret ⟨x, ρ, rfl, q⟩).up (Nat.zero_le _)
/-- a comprehension whose parts are known -/
theorem compW_eq {i : Nat} {gt : Env → W Bool} {ge : Env → W D} {ρ : Env} {p : D → Bool} {f : D → D} : ∀ {xs : List D}, (∀ x ∈ xs, gt (ρ.set i (.d x)) = PL.ret (p x)) → (∀ x ∈ xs, p x = true → ge (ρ.set i (.d x)) = PL.ret (f x)) → compW (.nm i) gt ge ρ xs = PL.ret ((xs.filter p).map f)
  | [], _, _ => rfl
  | x :: xs, h1, h2 => by
    have ih := compW_eq (fun y hy => h1 y (List.mem_cons_of_mem _ hy)) (fun y hy => h2 y (List.mem_cons_of_mem _ hy))
    show PL.bnd (PL.ret (ρ.set i (.d x))) _ = _
    rw [bnd_ret, h1 x List.mem_cons_self, bnd_ret]
    cases e : p x with
    | true =>
      rw [if_pos rfl, h2 x List.mem_cons_self e, bnd_ret, ih, bnd_ret, List.filter_cons_of_pos e]
      rfl
    | false => rw [if_neg Bool.false_ne_true, ih, List.filter_cons_of_neg (by rw [e]; exact Bool.false_ne_true)]
theorem Gen.comp {i : Nat} {ge : Env → W D} {ρ : Env} {c : Nat} {Q : D → Prop} : ∀ {xs : List D}, (∀ x ∈ xs, Gen (ge (ρ.set i (.d x))) c Q) → Gen (compW (.nm i) (fun _ => PL.ret true) ge ρ xs) (c * xs.length) fun ys => ys.length = xs.length ∧ ∀ y ∈ ys, Q y
  | [], _ => Gen.ret ⟨rfl, fun _ h => nomatch h⟩
  | x :: xs, h => by
    have ih := Gen.comp (xs := xs) fun y hy => h y (List.mem_cons_of_mem _ hy)
    show Gen (PL.bnd (PL.ret (ρ.set i (.d x))) _) _ _
    rw [bnd_ret, bnd_ret, if_pos rfl]
    refine (Gen.bnd (h x List.mem_cons_self) fun y hy => Gen.bnd ih fun ys hys => Gen.ret (Q := fun ys : List D => ys.length = (x :: xs).length ∧ ∀ y ∈ ys, Q y) ⟨by rw [List.length_cons, hys.1, List.length_cons], fun z hz => ?_⟩).up (by rw [List.length_cons, Nat.mul_add]; omega)
    rcases List.mem_cons.mp hz with rfl | hz
    · exact hy
    · exact hys.2 z hz
theorem rng_mem {lo : Int} {n : Nat} {x : D} (h : x ∈ rng lo n) : ∃ i : Nat, i < n ∧ x = .int (lo + i) := by
  unfold rng at h
  obtain ⟨i, h1, h2⟩ := List.mem_map.mp h
  exact ⟨i, List.mem_range.mp h1, h2.symm⟩
/-! ### rows for simp -/
theorem nm0 {x : D} {ρ : Env} : nm (.d x :: ρ) 0 = PL.ret x := rfl
theorem nm1 {x : D} {ρ : Env} {a0 : SV} : nm (a0 :: .d x :: ρ) 1 = PL.ret x := rfl
theorem nm2 {x : D} {ρ : Env} {a0 a1 : SV} : nm (a0 :: a1 :: .d x :: ρ) 2 = PL.ret x := rfl
theorem nm3 {x : D} {ρ : Env} {a0 a1 a2 : SV} : nm (a0 :: a1 :: a2 :: .d x :: ρ) 3 = PL.ret x := rfl
theorem nm4 {x : D} {ρ : Env} {a0 a1 a2 a3 : SV} : nm (a0 :: a1 :: a2 :: a3 :: .d x :: ρ) 4 = PL.ret x := rfl
theorem nm5 {x : D} {ρ : Env} {a0 a1 a2 a3 a4 : SV} : nm (a0 :: a1 :: a2 :: a3 :: a4 :: .d x :: ρ) 5 = PL.ret x := rfl
theorem nm6 {x : D} {ρ : Env} {a0 a1 a2 a3 a4 a5 : SV} : nm (a0 :: a1 :: a2 :: a3 :: a4 :: a5 :: .d x :: ρ) 6 = PL.ret x := rfl
theorem nm7 {x : D} {ρ : Env} {a0 a1 a2 a3 a4 a5 a6 : SV} : nm (a0 :: a1 :: a2 :: a3 :: a4 :: a5 :: a6 :: .d x :: ρ) 7 = PL.ret x := rfl
theorem nm8 {x : D} {ρ : Env} {a0 a1 a2 a3 a4 a5 a6 a7 : SV} : nm (a0 :: a1 :: a2 :: a3 :: a4 :: a5 :: a6 :: a7 :: .d x :: ρ) 8 = PL.ret x := rfl
theorem nm9 {x : D} {ρ : Env} {a0 a1 a2 a3 a4 a5 a6 a7 a8 : SV} : nm (a0 :: a1 :: a2 :: a3 :: a4 :: a5 :: a6 :: a7 :: a8 :: .d x :: ρ) 9 = PL.ret x := rfl
theorem nm10 {x : D} {ρ : Env} {a0 a1 a2 a3 a4 a5 a6 a7 a8 a9 : SV} : nm (a0 :: a1 :: a2 :: a3 :: a4 :: a5 :: a6 :: a7 :: a8 :: a9 :: .d x :: ρ) 10 = PL.ret x := rfl
theorem nm11 {x : D} {ρ : Env} {a0 a1 a2 a3 a4 a5 a6 a7 a8 a9 a10 : SV} : nm (a0 :: a1 :: a2 :: a3 :: a4 :: a5 :: a6 :: a7 :: a8 :: a9 :: a10 :: .d x :: ρ) 11 = PL.ret x := rfl
theorem tru_bl (b : Bool) : tru (.bl b) = PL.ret b := rfl
theorem blB_bl (b : Bool) : blB (.bl b) = PL.ret b := rfl
theorem lenD_lst (xs : List D) : lenD (.lst xs) = PL.ret (.int xs.length) := rfl
theorem lenD_tup (xs : List D) : lenD (.tup xs) = PL.ret (.int xs.length) := rfl
theorem lenD_str (x : Str) : lenD (.str x) = PL.ret (.int x.length) := rfl
theorem leD_int (i j : Int) : leD (.int i) (.int j) = PL.ret (.bl (decide (i ≤ j))) := rfl
theorem ltD_int (i j : Int) : ltD (.int i) (.int j) = PL.ret (.bl (decide (i < j))) := rfl
theorem gtD_int (i j : Int) : gtD (.int i) (.int j) = PL.ret (.bl (decide (j < i))) := rfl
theorem geD_int (i j : Int) : geD (.int i) (.int j) = PL.ret (.bl (decide (j ≤ i))) := rfl
theorem addD_int (i j : Int) : addD (.int i) (.int j) = PL.ret (.int (i + j)) := rfl
theorem subD_int (i j : Int) : subD (.int i) (.int j) = PL.ret (.int (i - j)) := rfl
theorem thenB_t (k : W D) : thenB (PL.ret (.bl true)) k = k := rfl
theorem thenB_f (k : W D) : thenB (PL.ret (.bl false)) k = PL.ret (.bl false) := rfl
theorem signs_str (x : Str) : signs (.str x) = PL.ret (x.cps.toList.map fun k => .str ⟨#[k]⟩) := rfl
theorem items_lst (xs : List D) : items (.lst xs) = PL.ret xs := rfl
theorem items_tup (xs : List D) : items (.tup xs) = PL.ret xs := rfl
theorem okD_str {x : Str} (h : SeqAt.shaped (.str x) = true) : okD (.str x) = true := h
theorem eqD_int (i j : Int) : eqD (.int i) (.int j) = PL.ret (.bl (decide (i = j))) := by
  unfold eqD
  rw [grd_pos (.inl ⟨rfl, rfl⟩)]
  simp only [py, PyData.eqv]
  rfl
theorem eqD_str {x y : Str} : eqD (.str x) (.str y) = PL.ret (.bl (x == y)) := by
  unfold eqD
  rw [grd_pos (.inr (.inr rfl))]
  simp [py, PyData.eqv]
theorem neD_str {x y : Str} : neD (.str x) (.str y) = PL.ret (.bl (!(x == y))) := by
  unfold neD
  rw [grd_pos (.inr (.inr rfl))]
  simp [py, PyData.eqv]
theorem eqD_nil {xs : List D} : eqD (.lst xs) (.lst []) = PL.ret (.bl xs.isEmpty) := by
  unfold eqD
  rw [grd_pos (by cases xs <;> first | exact .inl ⟨rfl, rfl⟩ | exact .inr (.inl rfl))]
  cases xs <;> simp [py, pys, PyData.eqv, PyData.eqvAll]
theorem neD_nil {xs : List D} : neD (.lst xs) (.lst []) = PL.ret (.bl (!xs.isEmpty)) := by
  unfold neD
  rw [grd_pos (by cases xs <;> first | exact .inl ⟨rfl, rfl⟩ | exact .inr (.inl rfl))]
  cases xs <;> simp [py, pys, PyData.eqv, PyData.eqvAll]
theorem arity_pos {α : Type} {n : Nat} {args : List SV} {m : W α} (h : args.length = n) : arity n args m = m := by
  subst h
  unfold arity
  rw [show Nat.beq args.length args.length = true from Nat.beq_refl _]
  rfl
theorem pys_all {k : Nat} : ∀ {xs : List D}, (∀ x ∈ xs, (py x).canLay0 = true ∧ (py x).depth ≤ k) → PyData.canLayAll0 (pys xs) = true ∧ PyData.depthAll (pys xs) ≤ k
  | [], _ => ⟨by simp [pys, PyData.canLayAll0], by simp [pys, PyData.depthAll]⟩
  | x :: xs, h => by
    have ih := pys_all (xs := xs) fun y hy => h y (List.mem_cons_of_mem _ hy)
    have q := h x List.mem_cons_self
    refine ⟨by simp [pys, PyData.canLayAll0, q.1, ih.1], ?_⟩
    simp only [pys, PyData.depthAll]
    exact Nat.max_le.mpr ⟨q.2, ih.2⟩
theorem okD_lst {xs : List D} (h : ∀ x ∈ xs, (py x).canLay0 = true ∧ (py x).depth ≤ 63) : okD (.lst xs) = true := by
  obtain ⟨h1, h2⟩ := pys_all h
  simp [okD, SeqAt.shaped, py, PyData.canLay0, PyData.depth, h1]
  omega
theorem okD_tup {xs : List D} (h : ∀ x ∈ xs, (py x).canLay0 = true ∧ (py x).depth ≤ 63) : okD (.tup xs) = true := by
  obtain ⟨h1, h2⟩ := pys_all h
  simp [okD, SeqAt.shaped, py, PyData.canLay0, PyData.depth, h1]
  omega
theorem okD_strs {s : Str} (h : okD (.str s) = true) {k : Nat} (hk : k ∈ s.cps.toList) : (py (.str ⟨#[k]⟩)).canLay0 = true ∧ (py (.str ⟨#[k]⟩)).depth ≤ 63 := by
  simp only [okD, SeqAt.shaped, py, PyData.canLay0, PyData.strOk, Bool.and_eq_true] at h
  refine ⟨?_, by simp [py, PyData.depth]⟩
  simp only [py, PyData.canLay0, PyData.strOk]
  have q := h.1
  rw [← Array.all_toList] at q
  have := List.all_eq_true.mp q k hk
  simpa using this
theorem ix_l {xs : List D} {i : Int} {x : D} (h : atI xs i = some x) : ixD (.lst xs) (.int i) = PL.ret x := by
  show (match atI xs i with | some x => PL.ret x | none => stuck : W D) = _
  rw [h]
theorem ix_t {xs : List D} {i : Int} {x : D} (h : atI xs i = some x) : ixD (.tup xs) (.int i) = PL.ret x := by
  show (match atI xs i with | some x => PL.ret x | none => stuck : W D) = _
  rw [h]
theorem ix_s {s : Str} {i : Int} {k : Nat} (h : atI s.cps.toList i = some k) : ixD (.str s) (.int i) = PL.ret (.str ⟨#[k]⟩) := by
  show (match atI s.cps.toList i with | some k => PL.ret (.str ⟨#[k]⟩) | none => stuck : W D) = _
  rw [h]
theorem ix0 (x : D) (xs : List D) : ixD (.tup (x :: xs)) (.int 0) = PL.ret x := ix_t (atI_nat (j := 0) rfl)
theorem ix1 (a x : D) (xs : List D) : ixD (.tup (a :: x :: xs)) (.int 1) = PL.ret x := ix_t (atI_nat (j := 1) rfl)
theorem ix2 (a b x : D) (xs : List D) : ixD (.tup (a :: b :: x :: xs)) (.int 2) = PL.ret x := ix_t (atI_nat (j := 2) rfl)
theorem ix_at {xs : List D} {i : Nat} (h : i < xs.length) : ixD (.lst xs) (.int i) = PL.ret xs[i] := ix_l (atI_nat (List.getElem?_eq_getElem h))
theorem ix_atT {xs : List D} {i : Nat} (h : i < xs.length) : ixD (.tup xs) (.int i) = PL.ret xs[i] := ix_t (atI_nat (List.getElem?_eq_getElem h))
/-- what may be shown, built from short parts -/
inductive Ok : D → Prop
  | non : Ok .non
  | bl (b : Bool) : Ok (.bl b)
  | int {i : Int} (h : i.natAbs < 10 ^ 61) : Ok (.int i)
  | str {s : Str} (h : okD (.str s) = true) : Ok (.str s)
  | lst {xs : List D} (h : ∀ x ∈ xs, Ok x) : Ok (.lst xs)
  | tup {xs : List D} (h : ∀ x ∈ xs, Ok x) : Ok (.tup xs)
  | dic0 : Ok (.dic [])
  | dic1 {s : Str} {i : Int} (h : okD (.str s) = true) (h2 : i.natAbs < 10 ^ 61) : Ok (.dic [(.inr s, .int i)])
theorem str_short {s : Str} (h : okD (.str s) = true) (B : Nat) : (py (.str s)).leavesShort B = true := by
  simp only [okD, SeqAt.shaped, py, PyData.canLay0, PyData.strOk, Bool.and_eq_true] at h
  simp only [py, PyData.leavesShort, List.all_eq_true, decide_eq_true_eq]
  have q := h.1
  rw [← Array.all_toList, List.all_eq_true] at q
  intro c hc
  have := of_decide_eq_true (q c hc)
  have e : (16 : Nat) ^ 8 = 4294967296 := by decide
  omega
theorem int_short {i : Int} (h : i.natAbs < 10 ^ 61) : (py (.int i)).leavesShort 62 = true := by
  simp only [py, PyData.leavesShort, PyData.shown]
  apply decide_eq_true
  rw [ofString_length]
  exact int_text_length_le10 (by decide) h
theorem int_showable {i : Int} (h : i.natAbs < 10 ^ 61) : (py (.int i)).showable = true := by
  simp only [py, PyData.showable, decide_eq_true_eq]
  refine Nat.lt_of_le_of_lt (?_ : i.natAbs.log2 ≤ 300) (by decide)
  by_cases hz : i.natAbs = 0
  · rw [hz]; decide
  · exact Nat.le_of_lt_succ ((Nat.log2_lt hz).mpr (Nat.lt_trans h (by decide +kernel)))
theorem pys_short : ∀ {xs : List D}, (∀ x ∈ xs, (py x).leavesShort 62 = true ∧ (py x).showable = true) → PyData.leavesShortAll 62 (pys xs) = true ∧ PyData.showableAll (pys xs) = true
  | [], _ => ⟨by simp [pys, PyData.leavesShortAll], by simp [pys, PyData.showableAll]⟩
  | x :: xs, h => by
    have ih := pys_short (xs := xs) fun y hy => h y (List.mem_cons_of_mem _ hy)
    have q := h x List.mem_cons_self
    exact ⟨by simp [pys, PyData.leavesShortAll, q.1, ih.1], by simp [pys, PyData.showableAll, q.2, ih.2]⟩
theorem Ok.short : ∀ {x : D}, Ok x → (py x).leavesShort 62 = true ∧ (py x).showable = true := by
  intro x h
  induction h with
  | non => exact ⟨by simp [py, PyData.leavesShort], by simp [py, PyData.showable]⟩
  | bl b => exact ⟨by simp [py, PyData.leavesShort], by simp [py, PyData.showable]⟩
  | int h => exact ⟨int_short h, int_showable h⟩
  | str h => exact ⟨str_short h _, by simp [py, PyData.showable]⟩
  | lst _ ih => exact ⟨by simp [py, PyData.leavesShort, (pys_short ih).1], by simp [py, PyData.showable, (pys_short ih).2]⟩
  | tup _ ih => exact ⟨by simp [py, PyData.leavesShort, (pys_short ih).1], by simp [py, PyData.showable, (pys_short ih).2]⟩
  | dic0 => exact ⟨by simp [py, pyk, PyData.leavesShort, PyData.leavesShortKv], by simp [py, pyk, PyData.showable, PyData.showableKv]⟩
  | dic1 h h2 =>
    have a := str_short h 62
    have b := int_short h2
    have c := int_showable h2
    refine ⟨?_, ?_⟩
    · show (PyData.leavesShort 62 (py (.str _)) && PyData.leavesShort 62 (py (.int _)) && true) = true
      rw [a, b]
      rfl
    · show (true && PyData.showable (py (.int _)) && true) = true
      rw [c]
      rfl
theorem repr_ok {x : D} (h : Ok x) (hb : (py x).bulk ≤ 200000) (hd : (py x).depth ≤ 64) : reprD x = PL.ret (.str (py x).shown) ∧ (py x).shown.length ≤ sizeLine := by
  have h1 := PyData.shown_le_bulk 62 (by decide) (py x) h.short.1
  have h2 : (py x).shown.length ≤ sizeLine := by rw [sizeLine_eq]; omega
  exact ⟨grd_pos ⟨h.short.2, h2, hd⟩ _, h2⟩
theorem setT_nm {β : Type} (i : Nat) (d : D) (ρ : Env) (f : Env → W β) : bnd (setT (.nm i) d ρ) f = f (ρ.set i (.d d)) := rfl
theorem pen0 {α : Type} {ρ : Env} (m : W α) : isPen (.pen :: ρ) 0 m = m := rfl
theorem pen1 {α : Type} {ρ : Env} {a : SV} (m : W α) : isPen (a :: .pen :: ρ) 1 m = m := rfl
theorem ari1 {α : Type} {a : SV} (m : W α) : arity 1 [a] m = m := rfl
theorem ari2 {α : Type} {a b : SV} (m : W α) : arity 2 [a, b] m = m := rfl
theorem ari3 {α : Type} {a b c : SV} (m : W α) : arity 3 [a, b, c] m = m := rfl
theorem Gen.take {b : Int} (h0 : 0 < b := by decide) (h1 : b < 1073741824 := by decide) : Gen (callM PL.drawM [.pen, .d (.int b)]) 1 fun d => ∃ r : Nat, d = .int r ∧ (r : Int) < b := Gen.call (Gen.drawM h0 h1)
theorem fewS {α : Type} {xs : List D} (h : xs.length ≤ 1000) (m : W α) : few xs m = m := few_pos (by rw [sizeLine_eq]; omega) m
theorem onStr_s {α : Type} (s : Str) (m : W α) : onStr (.str s) m = m := rfl
theorem rng1_int {j : Int} (h : inR j) : rng1 (.int j) = PL.ret (rng 0 j.toNat) := grd_pos h _
theorem andThen_bnd {α : Type} (m : W α) (f : α → W Out) (k : Env → W Out) : andThen (bnd m f) k = bnd m fun a => andThen (f a) k := rfl
theorem andThen_ite {p : Prop} [Decidable p] (m m' : W Out) (k : Env → W Out) : andThen (if p then m else m') k = if p then andThen m k else andThen m' k := by split <;> rfl
theorem Gen.tk {β : Type} {b : Int} {f : D → W β} {C : Nat} {Q : β → Prop} (c : Nat) (k : ∀ r : Nat, (r : Int) < b → Gen (f (.int r)) c Q) (hc : c + 1 ≤ C := by decide) (h0 : 0 < b := by decide) (h1 : b < 1073741824 := by decide) : Gen (PL.bnd (callM PL.drawM [.pen, .d (.int b)]) f) C Q :=
  (Gen.bnd (Gen.take h0 h1) fun d ⟨r, e, hr⟩ => by rw [e]; exact k r hr).up (by omega)
theorem Gen.ty {α β : Type} {m : W α} {f : α → W β} {C : Nat} {R : α → Prop} {Q : β → Prop} (c d : Nat) (h : Gen m c R) (k : ∀ a, R a → Gen (f a) d Q) (hc : c + d ≤ C := by decide) : Gen (PL.bnd m f) C Q := (Gen.bnd h k).up hc
theorem bnd_id {α : Type} (m : W α) : (bnd m fun a => PL.ret a) = m := rfl
theorem joinL_nil : ∀ ks : List Nat, TL.joinL [] (ks.map fun k => [k]) = ks
  | [] => rfl
  | [_] => rfl
  | k :: j :: r => by
    show [k] ++ ([] ++ TL.joinL [] ((j :: r).map fun k => [k])) = _
    rw [joinL_nil (j :: r)]
    rfl
theorem join_signs (ks : List Nat) : Txt.join (Str.ofString "") (ks.map fun k => (⟨#[k]⟩ : Str)) = ⟨ks.toArray⟩ := by
  have e : TL.tl (Txt.join (Str.ofString "") (ks.map fun k => (⟨#[k]⟩ : Str))) = ks := by
    rw [TL.join_eq, TL.tl_join, List.map_map]
    exact joinL_nil ks
  have e2 : ∀ x : Str, x = ⟨(TL.tl x).toArray⟩ := fun x => by cases x; rfl
  rw [e2 (Txt.join _ _), e]
theorem txts_signs : ∀ ks : List Nat, txts (ks.map fun k => D.str ⟨#[k]⟩) = some (ks.map fun k => ⟨#[k]⟩)
  | [] => rfl
  | k :: ks => by
    show (txts (ks.map _)).map _ = _
    rw [txts_signs ks]
    rfl
theorem sum_ones : ∀ ks : List Nat, ((ks.map fun k => (⟨#[k]⟩ : Str)).map (·.length)).sum = ks.length
  | [] => rfl
  | k :: ks => by
    rw [List.map_cons, List.map_cons, List.sum_cons, sum_ones ks, List.length_cons]
    show 1 + _ = _
    omega
theorem joinD_signs (ks : List Nat) (h : ks.length ≤ 1000) : joinD (.str (Str.ofString "")) (.lst (ks.map fun k => .str ⟨#[k]⟩)) = PL.ret (.str ⟨ks.toArray⟩) := by
  show joinW _ _ = _
  unfold joinW
  rw [txts_signs]
  show grd _ _ = _
  rw [join_signs]
  have e : (Str.mk ks.toArray).length = ks.length := List.size_toArray
  refine grd_pos ⟨?_, by rw [e, sizeLine_eq]; omega⟩ _
  rw [sum_ones, List.length_map, show (Str.ofString "").length = 0 from rfl]
  omega
theorem signs_ok {l : List D} {p : Nat → Prop} : (∀ y ∈ l, ∃ k, y = .str ⟨#[k]⟩ ∧ p k) → ∃ ks : List Nat, l = ks.map (fun k => .str ⟨#[k]⟩) ∧ ks.length = l.length ∧ ∀ k ∈ ks, p k := by
  induction l with
  | nil => exact fun _ => ⟨[], rfl, rfl, fun _ h => nomatch h⟩
  | cons y l ih =>
    intro h
    obtain ⟨k, rfl, hk⟩ := h y List.mem_cons_self
    obtain ⟨ks, rfl, e, hp⟩ := ih fun z hz => h z (List.mem_cons_of_mem _ hz)
    exact ⟨k :: ks, rfl, by simp, fun j hj => by rcases List.mem_cons.mp hj with rfl | hj; exact hk; exact hp j hj⟩
theorem okD_small {s : Str} (h : ∀ k ∈ s.cps.toList, k < 1114112) : okD (.str s) = true := by
  simp only [okD, SeqAt.shaped, py, PyData.canLay0, PyData.strOk, PyData.depth, Bool.and_eq_true]
  refine ⟨?_, by decide⟩
  rw [← Array.all_toList, List.all_eq_true]
  exact fun k hk => decide_eq_true (h k hk)
end PL

/-! Statements over a state whose names are told one by one: a block's mirror speaks of values alone. -/
namespace PL
open PySem PySem.Spec L2 PyProof.Rows

/-- how a block's ends are carried on -/
structure Enz (γ : Type) where
  nx : Env → W γ → Prop
  rt : D → W γ → Prop
  bk : Env → W γ → Prop
  ct : Env → W γ → Prop
inductive Step (J γ : Type) where
  | go (j : J) | bk (j : J) | out (g : γ)
def forK {J γ : Type} (k f : J → W γ) : Step J γ → W γ
  | .go j => f j
  | .bk j => k j
  | .out g => ret g
def forT {α J γ : Type} (bd : α → J → W (Step J γ)) (k : J → W γ) : List α → J → W γ
  | [], j => k j
  | x :: xs, j => bnd (bd x j) (forK k fun j' => forT bd k xs j')
/-- some names forgotten -/
def Le (ρ ρ' : Env) : Prop := ρ'.length = ρ.length ∧ ∀ i : Nat, ρ'[i]? = ρ[i]? ∨ ρ'[i]? = some .un
theorem Le.refl {ρ : Env} : Le ρ ρ := ⟨rfl, fun _ => .inl rfl⟩
theorem Le.nil : Le [] [] := .refl
theorem Le.same {s : SV} {ρ ρ' : Env} (h : Le ρ ρ') : Le (s :: ρ) (s :: ρ') := ⟨by simp [h.1], fun i => match i with
  | 0 => .inl rfl
  | i + 1 => h.2 i⟩
theorem Le.un {s : SV} {ρ ρ' : Env} (h : Le ρ ρ') : Le (s :: ρ) (.un :: ρ') := ⟨by simp [h.1], fun i => match i with
  | 0 => .inr rfl
  | i + 1 => h.2 i⟩

section
variable {G : PenK} {K : PySem.W.Frag} {c : C} {σ : L2.St} {ρ ρ' : Env} {H : Hp} {n : Nt}
theorem SI.le (I : SI G K c σ H ρ n) (h : Le ρ ρ') : SI G K c σ H ρ' n := by
  have key : ∀ (i : Nat) (sv : SV), ρ'[i]? = some sv → sv = .un ∨ ρ[i]? = some sv := fun i sv e => by
    rcases h.2 i with q | q
    · exact .inr (q ▸ e)
    · rw [q] at e; exact .inl (Option.some.inj e).symm
  refine ⟨h.1.trans I.len, fun i sv e => ?_, fun i sv a e ho => ?_, fun i j sv sv' a hn e e' ho ho' => ?_, I.dom, I.fr, I.pen, I.no, I.tab, I.mu, I.mu0, I.mz⟩
  · rcases key i sv e with rfl | q
    · trivial
    · exact I.slots i sv q
  · rcases key i sv e with rfl | q
    · cases ho
    · exact I.own i sv a q ho
  · rcases key i sv e with rfl | q
    · cases ho
    · rcases key j sv' e' with rfl | q'
      · cases ho'
      · exact I.apart i j sv sv' a hn q q' ho ho'
end

section
variable (G : PenK) (X : Cx) (Wx : WX) {γ : Type}
def GlE (En : Enz γ) (c : C) (H : Hp) (P : γ → Nt → Prop) (PX : Exc → Nt → Prop) (Dn : Ends) : Prop :=
  (∀ ρ' m k σ' S' H', En.nx ρ' m → m k P PX → Grow c.S S' H H' → SI G X.K (c.to S') σ' H' ρ' k → Dn.nx σ' H') ∧
  (∀ d m k v σ' ρ' S' H', En.rt d m → m k P PX → Grow c.S S' H H' → SI G X.K (c.to S') σ' H' ρ' k → Rep X.K S' H' d v → Dn.rt v H') ∧
  (∀ ρ' m k σ' S' H', En.bk ρ' m → m k P PX → Grow c.S S' H H' → SI G X.K (c.to S') σ' H' ρ' k → Dn.bk σ' H') ∧
  ∀ ρ' m k σ' S' H', En.ct ρ' m → m k P PX → Grow c.S S' H H' → SI G X.K (c.to S') σ' H' ρ' k → Dn.ct σ' H'
def tG (ρ : Env) (En : Enz γ) (m : W γ) : TS := fun Dn σ H => ∃ c n P PX, SI G X.K c σ H ρ n ∧ m n P PX ∧ GlE G X En c H P PX Dn ∧ OKs G X Wx c H PX
def SG (ss : List Stmt) (ρ : Env) (En : Enz γ) (m : W γ) : Prop := PSs X ss (tG G X Wx ρ En m)
end
section
variable {G : PenK} {X : Cx} {Wx : WX} {γ : Type} {En : Enz γ} {ρ ρ' : Env} {rest : List Stmt} {m : W γ}
theorem GlE.grow {c : C} {H H' : Hp} {P : γ → Nt → Prop} {PX : Exc → Nt → Prop} {Dn : Ends} {S' : Addr → Prop} (h : GlE G X En c H P PX Dn) (g : Grow c.S S' H H') : GlE G X En (c.to S') H' P PX Dn :=
  ⟨fun ρ m k σ S2 H2 e p g2 I => h.1 ρ m k σ S2 H2 e p (g.trans g2) I, fun d m k v σ ρ S2 H2 e p g2 I r => h.2.1 d m k v σ ρ S2 H2 e p (g.trans g2) I r,
    fun ρ m k σ S2 H2 e p g2 I => h.2.2.1 ρ m k σ S2 H2 e p (g.trans g2) I, fun ρ m k σ S2 H2 e p g2 I => h.2.2.2 ρ m k σ S2 H2 e p (g.trans g2) I⟩
theorem pss_un {α : Type} {t : α → TS} (h : ∀ a, PSs X rest (t a)) : PSs X rest (fun Dn σ H => ∃ a, t a Dn σ H) := ⟨fun pins s σ H D I ⟨a, q⟩ => (h a).run pins s σ H D I q⟩
theorem pss_no : PSs X rest (fun _ _ _ => False) := ⟨fun _ _ _ _ _ _ q => q.elim⟩
theorem inj_eq {α β : Type} {e : α → β} (inj : ∀ a b, e a = e b → a = b) (k : α → Nt → Prop) : (fun a j => ∃ b, e a = e b ∧ k b j) = k := by
  funext a j
  exact propext ⟨fun ⟨b, h, q⟩ => (inj a b h) ▸ q, fun q => ⟨a, rfl, q⟩⟩
theorem sg_eq {ss : List Stmt} {m m' : W γ} (h : SG G X Wx ss ρ En m) (e : m = m') : SG G X Wx ss ρ En m' := e ▸ h
theorem sg_le {ss : List Stmt} (h : SG G X Wx ss ρ' En m) (hl : Le ρ ρ') : SG G X Wx ss ρ En m :=
  weakSs h fun Dn σ H ⟨c, n, P, PX, I, q, hg, hx⟩ => ⟨c, n, P, PX, I.le hl, q, hg, hx⟩
theorem sg_nil (h : En.nx ρ m) : SG G X Wx [] ρ En m := weakSs pss_nil fun Dn σ H ⟨c, n, P, PX, I, q, hg, hx⟩ => hg.1 ρ m n σ c.S H h q .refl I
/-- a statement behind which one goes on -/
theorem sg_stmt {s : Stmt} {g : Env → W Out} {α : Type} {m0 : W α} {e : α → Env} {k : α → W γ} (h : St1 G X Wx s g) (hg : g ρ = bnd m0 fun a => ret (.nx (e a))) (inj : ∀ a b, e a = e b → a = b) (hr : ∀ a, SG G X Wx rest (e a) En (k a)) :
    SG G X Wx (s :: rest) ρ En (bnd m0 k) :=
  weakSs (pss_cons h (pss_un hr)) fun Dn σ H ⟨c, n, P, PX, I, q, hgl, hx⟩ => by
    refine ⟨c, ρ, n, fun o j => ∃ a, o = .nx (e a) ∧ k a j P PX, PX, I, ?_, ⟨fun ρ' j σ' S' H' ⟨a, ea, p⟩ g I' => ?_, fun d j v σ' ρ' S' H' ⟨a, ea, p⟩ _ _ _ => (nomatch ea), fun ρ' j σ' S' H' ⟨a, ea, p⟩ _ _ => (nomatch ea), fun ρ' j σ' S' H' ⟨a, ea, p⟩ _ _ => (nomatch ea)⟩, hx⟩
    · rw [hg]
      have ee := inj_eq (e := fun a => Out.nx (e a)) (fun a b z => inj a b (Out.nx.inj z)) fun a j => k a j P PX
      show m0 n (fun a j => ∃ b, Out.nx (e a) = Out.nx (e b) ∧ k b j P PX) PX
      rw [ee]
      exact q
    · cases ea
      exact ⟨a, c.to S', j, P, PX, I', p, hgl.grow g, hx.grow g⟩
/-- .. whose value is dropped -/
theorem sg_drop {s : Stmt} {g : Env → W Out} {α : Type} {m0 : W α} {k : W γ} (h : St1 G X Wx s g) (hg : g ρ = bnd m0 fun _ => ret (.nx ρ)) (hr : SG G X Wx rest ρ En k) : SG G X Wx (s :: rest) ρ En (bnd m0 fun _ => k) :=
  weakSs (pss_cons h hr) fun Dn σ H ⟨c, n, P, PX, I, q, hgl, hx⟩ => by
    refine ⟨c, ρ, n, fun o j => o = .nx ρ ∧ k j P PX, PX, I, ?_, ⟨fun ρ' j σ' S' H' ⟨ea, p⟩ g I' => ?_, fun d j v σ' ρ' S' H' ⟨ea, p⟩ _ _ _ => (nomatch ea), fun ρ' j σ' S' H' ⟨ea, p⟩ _ _ => (nomatch ea), fun ρ' j σ' S' H' ⟨ea, p⟩ _ _ => (nomatch ea)⟩, hx⟩
    · rw [hg]
      show m0 n (fun a j => Out.nx ρ = Out.nx ρ ∧ k j P PX) PX
      have ee : (fun (a : α) (j : Nt) => Out.nx ρ = Out.nx ρ ∧ k j P PX) = fun _ j => k j P PX := by
        funext a j
        exact propext ⟨fun q => q.2, fun q => ⟨rfl, q⟩⟩
      rw [ee]
      exact q
    · cases ea
      exact ⟨c.to S', j, P, PX, I', p, hgl.grow g, hx.grow g⟩
theorem sg_ret {e : Expr} {pos : Pos} {g : Env → W D} {α : Type} {m0 : W α} {f : α → D} {r : α → W γ} (h : E G X Wx e g) (hg : g (bor ρ) = bnd m0 fun a => ret (f a)) (inj : ∀ a b, f a = f b → a = b) (hr : ∀ a, En.rt (f a) (r a)) :
    SG G X Wx (.Return (some e) pos :: rest) ρ En (bnd m0 r) :=
  weakSs (pss_cons (ps_ret h) pss_no) fun Dn σ H ⟨c, n, P, PX, I, q, hgl, hx⟩ => by
    obtain ⟨I2, g2⟩ := I.lend
    refine ⟨_, bor ρ, n, fun d j => ∃ a, d = f a ∧ r a j P PX, PX, I2, ?_, fun d j v S' H' ⟨a, ea, p⟩ g I' rv => ?_, (hx.grow g2).x⟩
    · rw [hg]
      show m0 n (fun a j => ∃ b, f a = f b ∧ r b j P PX) PX
      rw [inj_eq inj fun a j => r a j P PX]
      exact q
    · subst ea
      exact hgl.2.1 (f a) (r a) j v σ _ S' H' (hr a) p (g2.trans g) I' rv
theorem sg_retN {pos : Pos} (hr : En.rt .non m) : SG G X Wx (.Return none pos :: rest) ρ En m :=
  weakSs (pss_cons ps_retN pss_no) fun Dn σ H ⟨c, n, P, PX, I, q, hgl, hx⟩ => hgl.2.1 .non m n .non σ ρ c.S H hr q .refl I rfl
theorem sg_pass {pos : Pos} (h : SG G X Wx rest ρ En m) : SG G X Wx (.Pass pos :: rest) ρ En m :=
  weakSs (pss_cons ps_pass h) fun Dn σ H q => q
theorem sg_brk {pos : Pos} (h : En.bk ρ m) : SG G X Wx (.Break pos :: rest) ρ En m :=
  weakSs (pss_cons ps_break pss_no) fun Dn σ H ⟨c, n, P, PX, I, q, hgl, hx⟩ => hgl.2.2.1 ρ m n σ c.S H h q .refl I
theorem sg_cnt {pos : Pos} (h : En.ct ρ m) : SG G X Wx (.Continue pos :: rest) ρ En m :=
  weakSs (pss_cons ps_continue pss_no) fun Dn σ H ⟨c, n, P, PX, I, q, hgl, hx⟩ => hgl.2.2.2 ρ m n σ c.S H h q .refl I
theorem sg_doc {x : Str} {j pos pos'} (h : SG G X Wx rest ρ En m) : SG G X Wx (.Expr (.Constant (.str x) j pos) pos' :: rest) ρ En m :=
  weakSs (pss_cons ps_doc h) fun Dn σ H q => q
/-- the ends of a block behind which a rest stands -/
def Enz.push (En : Enz γ) (G : PenK) (X : Cx) (Wx : WX) (rest : List Stmt) : Enz γ := { En with nx := fun ρ m => SG G X Wx rest ρ En m }
theorem sg_push {En : Enz γ} (h : SG G X Wx rest ρ En m) : SG G X Wx [] ρ (En.push G X Wx rest) m := sg_nil h
theorem sg_if {t : Expr} {a b : List Stmt} {pos : Pos} {gt : Env → W Bool} {mt : W Bool} {ma mb : W γ} (ht : T G X Wx t gt) (hg : gt (bor ρ) = mt) (ha : SG G X Wx a ρ (En.push G X Wx rest) ma) (hb : SG G X Wx b ρ (En.push G X Wx rest) mb) :
    SG G X Wx (.If t a b pos :: rest) ρ En (bnd mt fun x => if x = true then ma else mb) :=
  weakSs (pss_cons (ps_if ht ha hb) (pss_un fun z : { z : Env × W γ // SG G X Wx rest z.1 En z.2 } => z.2)) fun Dn σ H ⟨c, n, P, PX, I, q, hgl, hx⟩ => by
    obtain ⟨I2, g2⟩ := I.lend
    subst hg
    refine tT.bnd (f := fun x => if x = true then ma else mb) I2 q (hx.grow g2).x fun b k S' H' p g I' hx' => ?_
    obtain ⟨I3, g3⟩ := I.back g I'
    have hgl3 := hgl.grow g3
    have hx3 := hx.grow g3
    have hE : GlE G X (En.push G X Wx rest) (c.to fun a => S' a ∧ ¬ ownS ρ σ a) H' P PX { Dn with nx := fun σ H => ∃ z : { z : Env × W γ // SG G X Wx rest z.1 En z.2 }, tG G X Wx z.1.1 En z.1.2 Dn σ H } :=
      ⟨fun ρ' m k σ' S' H' e p g I => ⟨⟨(ρ', m), e⟩, _, k, P, PX, I, p, hgl3.grow g, hx3.grow g⟩, hgl3.2.1, hgl3.2.2.1, hgl3.2.2.2⟩
    cases b with
    | true => exact iteT ⟨_, k, P, PX, I3, p, hE, hx3⟩
    | false => exact iteF ⟨_, k, P, PX, I3, p, hE, hx3⟩
theorem sg_ifP {t : Expr} {a b : List Stmt} {pos : Pos} {gt : Env → W Bool} {x : Bool} {ma mb : W γ} (ht : T G X Wx t gt) (hg : gt (bor ρ) = ret x) (ha : SG G X Wx a ρ (En.push G X Wx rest) ma) (hb : SG G X Wx b ρ (En.push G X Wx rest) mb) :
    SG G X Wx (.If t a b pos :: rest) ρ En (if x = true then ma else mb) := sg_if ht hg ha hb
theorem sg_retP {e : Expr} {pos : Pos} {g : Env → W D} {d : D} (h : E G X Wx e g) (hg : g (bor ρ) = ret d) (hr : En.rt d m) : SG G X Wx (.Return (some e) pos :: rest) ρ En m :=
  sg_ret (m0 := ret ()) (f := fun _ => d) (r := fun _ => m) h hg (fun _ _ _ => rfl) fun _ => hr
theorem sg_retD {e : Expr} {pos : Pos} {g : Env → W D} {m0 : W D} {r : D → W γ} (h : E G X Wx e g) (hg : g (bor ρ) = m0) (hr : ∀ d, En.rt d (r d)) : SG G X Wx (.Return (some e) pos :: rest) ρ En (bnd m0 r) :=
  sg_ret (f := fun d => d) h (hg.trans rfl) (fun _ _ h => h) hr
/-- the ends of a loop's body -/
def Enz.loop {J : Type} (En : Enz γ) (emb : J → Env) : Enz (Step J γ) where
  nx := fun ρ m => ∃ j, m = ret (.go j) ∧ Le ρ (emb j)
  ct := fun ρ m => ∃ j, m = ret (.go j) ∧ Le ρ (emb j)
  bk := fun ρ m => ∃ j, m = ret (.bk j) ∧ Le ρ (emb j)
  rt := fun d m => ∃ mg, En.rt d mg ∧ m = bnd mg fun g => ret (.out g)
theorem map_inj {α β : Type} {f : α → β} (inj : ∀ a b, f a = f b → a = b) : ∀ xs ys : List α, xs.map f = ys.map f → xs = ys
  | [], [], _ => rfl
  | [], _ :: _, h => by simp at h
  | _ :: _, [], h => by simp at h
  | x :: xs, y :: ys, h => by
    rw [List.map_cons, List.map_cons] at h
    obtain ⟨h1, h2⟩ := List.cons.inj h
    rw [inj x y h1, map_inj inj xs ys h2]
theorem sg_for {J α β : Type} {tg it : Expr} {body : List Stmt} {pos : Pos} {t : Tg} {gi : Env → W (List D)} {mw : W (List β)} {tt : List β → List D} {f : β → D} {emb : J → Env} {j0 : J} {mu : β → W α} {e : α → J → Env} {bb : α → J → W (Step J γ)} {kk : J → W γ}
    (hp : PassesOwn (model X.prog X.w) X.A X.env X.xe) (hc : X.calm = true) (hi : Wk G X Wx tg it gi) (ht : PTg X tg t) (hgi : gi ρ = bnd mw fun ys => ret (tt ys)) (htt : ∀ ys, tt ys = ys.map f) (hf : ∀ a b, f a = f b → a = b) (hl : Le ρ (emb j0)) (hs : ∀ x j, setT t (f x) (emb j) = bnd (mu x) fun a => ret (e a j)) (inj : ∀ j a b, e a j = e b j → a = b)
    (hb : ∀ a j, SG G X Wx body (e a j) (En.loop emb) (bb a j)) (hr : ∀ j, SG G X Wx rest (emb j) En (kk j)) (hfs : ∀ x, foldedSetIterable it X.env x = pure x := by intro _; rfl) :
    SG G X Wx (.For tg it body [] pos :: rest) ρ En (bnd mw fun ys => forT (fun x j => bnd (mu x) fun a => bb a j) kk ys j0) :=
  weakSs (pss_cons (ps_for hp hc hi ht (pss_un fun z : α × J => hb z.1 z.2) hfs) (pss_un hr)) fun Dn σ H ⟨c, n, P, PX, I, q, hg, hx⟩ => by
    refine ⟨c, ρ, n, fun xs k => ∃ ys, xs = ys.map f ∧ forT (fun x j => bnd (mu x) fun a => bb a j) kk ys j0 k P PX, PX, I, ?_, fun xs k S' H' J0 ⟨ys, exs, p⟩ g I' wk => ?_, hx.x⟩
    · rw [hgi]
      show mw n (fun ys k => ∃ zs, tt ys = zs.map f ∧ forT (fun x j => bnd (mu x) fun a => bb a j) kk zs j0 k P PX) PX
      have ee : (fun ys k => ∃ zs, tt ys = zs.map f ∧ forT (fun x j => bnd (mu x) fun a => bb a j) kk zs j0 k P PX) = fun ys k => forT (fun x j => bnd (mu x) fun a => bb a j) kk ys j0 k P PX := by
        funext ys k
        exact propext ⟨fun ⟨zs, h, q⟩ => (map_inj hf ys zs ((htt ys).symm.trans h)) ▸ q, fun q => ⟨ys, htt ys, q⟩⟩
      rw [ee]
      exact q
    have hlen : xs.length = ys.length := by rw [exs, List.length_map]
    refine ⟨fun i m σ2 H2 => m = xs.length - i ∧ i ≤ xs.length ∧ ∃ S2 j2 k2, Grow S' S2 H' H2 ∧ SI G X.K (c.to S2) σ2 H2 (emb j2) k2 ∧ forT (fun x j => bnd (mu x) fun a => bb a j) kk (ys.drop i) j2 k2 P PX, ⟨_, rfl, Nat.zero_le _, S', j0, k, .refl, I'.le hl, p⟩, ?_⟩
    rintro i m σ2 H2 ⟨rfl, hi, S2, j2, k2, g2, I2, p2⟩
    have gg : Grow c.S S2 H H2 := g.trans g2
    obtain ⟨w1, w2⟩ := wk (c.to S2) (emb j2) σ2 H2 k2 i g2 I2
    by_cases hlt : i < xs.length
    · obtain ⟨go, yl⟩ := w1 hlt
      have hly : i < ys.length := hlen ▸ hlt
      have gb' : ∀ (ρ' : Env) (j' : J) (k' : Nt) (σ' : L2.St) (S'' : Addr → Prop) (H'' : Hp), Le ρ' (emb j') → forT (fun x j => bnd (mu x) fun a => bb a j) kk (ys.drop (i + 1)) j' k' P PX → Grow S2 S'' H2 H'' → SI G X.K (c.to S'') σ' H'' ρ' k' →
          ∃ S3 j3 k3, Grow S' S3 H' H'' ∧ SI G X.K (c.to S3) σ' H'' (emb j3) k3 ∧ forT (fun x j => bnd (mu x) fun a => bb a j) kk (ys.drop (i + 1)) j3 k3 P PX := fun ρ' j' k' σ' S'' H'' le p' g' I'' => ⟨S'', j', k', g2.trans g', I''.le le, p'⟩
      refine .inr ⟨go, fun σ' H'' => ∃ S3 j3 k3, Grow S' S3 H' H'' ∧ SI G X.K (c.to S3) σ' H'' (emb j3) k3 ∧ forT (fun x j => bnd (mu x) fun a => bb a j) kk (ys.drop (i + 1)) j3 k3 P PX, fun σ' H'' q => ⟨xs.length - (i + 1), by omega, rfl, hlt, q⟩, fun v H3 y => ?_⟩
      obtain ⟨S3, x, g3, I3, ex, r⟩ := yl v H3 y
      have ed : ys.drop i = ys[i] :: ys.drop (i + 1) := List.drop_eq_getElem_cons hly
      have ey : x = f ys[i] := by
        rw [exs, List.getElem?_map, List.getElem?_eq_getElem hly] at ex
        exact (Option.some.inj ex).symm
      rw [ed] at p2
      subst ey
      have hx3 := hx.grow (gg.trans g3)
      have hg3 := hg.grow (gg.trans g3)
      let PP : Step J γ → Nt → Prop := fun o k => forK kk (fun j' => forT (fun x j => bnd (mu x) fun a => bb a j) kk (ys.drop (i + 1)) j') o k P PX
      have p3 : mu ys[i] k2 (fun a k => bb a j2 k PP PX) PX := p2
      have p4 : setT t (f ys[i]) (emb j2) k2 (fun ρ' k => ∃ a, ρ' = e a j2 ∧ bb a j2 k PP PX) PX := by
        rw [hs]
        show mu ys[i] k2 (fun a k => ∃ b, e a j2 = e b j2 ∧ bb b j2 k PP PX) PX
        rw [inj_eq (inj j2) fun a k => bb a j2 k PP PX]
        exact p3
      refine gT_ok t I3 r p4 fun ρ' k' σ' ⟨a, ea, p5⟩ I4 _ _ => ?_
      subst ea
      refine ⟨(a, j2), _, k', PP, PX, I4, p5, ⟨?_, ?_, ?_, ?_⟩, hx3⟩
      · rintro ρ5 _ k5 σ5 S5 H5 ⟨j', rfl, le⟩ p6 g5 I5
        exact gb' ρ5 j' k5 σ5 S5 H5 le p6 (g3.trans g5) I5
      · rintro d5 _ k5 v5 σ5 ρ5 S5 H5 ⟨mg, hrt, rfl⟩ p6 g5 I5 r5
        exact hg3.2.1 d5 mg k5 v5 σ5 ρ5 S5 H5 hrt p6 g5 I5 r5
      · rintro ρ5 _ k5 σ5 S5 H5 ⟨j', rfl, le⟩ p6 g5 I5
        exact ⟨j', _, k5, P, PX, I5.le le, p6, hg3.grow g5, hx3.grow g5⟩
      · rintro ρ5 _ k5 σ5 S5 H5 ⟨j', rfl, le⟩ p6 g5 I5
        exact gb' ρ5 j' k5 σ5 S5 H5 le p6 (g3.trans g5) I5
    · have ee : i = ys.length := by omega
      subst ee
      rw [List.drop_length] at p2
      exact .inl ⟨w2 (by omega), j2, _, k2, P, PX, I2, p2, hg.grow gg, hx.grow gg⟩
theorem sg_forI {J β : Type} {tg it : Expr} {body : List Stmt} {pos : Pos} {t : Tg} {gi : Env → W (List D)} {mw : W (List β)} {tt : List β → List D} {f : β → D} {emb : J → Env} {j0 : J} {e : β → J → Env} {bb : β → J → W (Step J γ)} {kk : J → W γ}
    (hp : PassesOwn (model X.prog X.w) X.A X.env X.xe) (hc : X.calm = true) (hi : Wk G X Wx tg it gi) (ht : PTg X tg t) (hgi : gi ρ = bnd mw fun ys => ret (tt ys)) (htt : ∀ ys, tt ys = ys.map f) (hf : ∀ a b, f a = f b → a = b) (hl : Le ρ (emb j0)) (hs : ∀ x j, setT t (f x) (emb j) = ret (e x j)) (inj : ∀ j a b, e a j = e b j → a = b)
    (hb : ∀ a j, SG G X Wx body (e a j) (En.loop emb) (bb a j)) (hr : ∀ j, SG G X Wx rest (emb j) En (kk j)) (hfs : ∀ x, foldedSetIterable it X.env x = pure x := by intro _; rfl) :
    SG G X Wx (.For tg it body [] pos :: rest) ρ En (bnd mw fun ys => forT bb kk ys j0) :=
  sg_for (mu := ret) hp hc hi ht hgi htt hf hl (fun x j => (hs x j).trans rfl) inj hb hr hfs
theorem sg_forP {J α β : Type} {tg it : Expr} {body : List Stmt} {pos : Pos} {t : Tg} {gi : Env → W (List D)} {ys : List β} {tt : List β → List D} {f : β → D} {emb : J → Env} {j0 : J} {mu : β → W α} {e : α → J → Env} {bb : α → J → W (Step J γ)} {kk : J → W γ}
    (hp : PassesOwn (model X.prog X.w) X.A X.env X.xe) (hc : X.calm = true) (hi : Wk G X Wx tg it gi) (ht : PTg X tg t) (hgi : gi ρ = ret (tt ys)) (htt : ∀ ys, tt ys = ys.map f) (hf : ∀ a b, f a = f b → a = b) (hl : Le ρ (emb j0)) (hs : ∀ x j, setT t (f x) (emb j) = bnd (mu x) fun a => ret (e a j)) (inj : ∀ j a b, e a j = e b j → a = b)
    (hb : ∀ a j, SG G X Wx body (e a j) (En.loop emb) (bb a j)) (hr : ∀ j, SG G X Wx rest (emb j) En (kk j)) (hfs : ∀ x, foldedSetIterable it X.env x = pure x := by intro _; rfl) :
    SG G X Wx (.For tg it body [] pos :: rest) ρ En (forT (fun x j => bnd (mu x) fun a => bb a j) kk ys j0) :=
  sg_for (mw := ret ys) hp hc hi ht (hgi.trans rfl) htt hf hl hs inj hb hr hfs
theorem sg_forIP {J β : Type} {tg it : Expr} {body : List Stmt} {pos : Pos} {t : Tg} {gi : Env → W (List D)} {ys : List β} {tt : List β → List D} {f : β → D} {emb : J → Env} {j0 : J} {e : β → J → Env} {bb : β → J → W (Step J γ)} {kk : J → W γ}
    (hp : PassesOwn (model X.prog X.w) X.A X.env X.xe) (hc : X.calm = true) (hi : Wk G X Wx tg it gi) (ht : PTg X tg t) (hgi : gi ρ = ret (tt ys)) (htt : ∀ ys, tt ys = ys.map f) (hf : ∀ a b, f a = f b → a = b) (hl : Le ρ (emb j0)) (hs : ∀ x j, setT t (f x) (emb j) = ret (e x j)) (inj : ∀ j a b, e a j = e b j → a = b)
    (hb : ∀ a j, SG G X Wx body (e a j) (En.loop emb) (bb a j)) (hr : ∀ j, SG G X Wx rest (emb j) En (kk j)) (hfs : ∀ x, foldedSetIterable it X.env x = pure x := by intro _; rfl) :
    SG G X Wx (.For tg it body [] pos :: rest) ρ En (forT bb kk ys j0) :=
  sg_forI (mw := ret ys) hp hc hi ht (hgi.trans rfl) htt hf hl hs inj hb hr hfs
/-- an if whose ways assign alone -/
def EnJ {J : Type} (emb : J → Env) : Enz J where
  nx := fun ρ m => ∃ j, m = ret j ∧ Le ρ (emb j)
  rt := fun _ _ => False
  bk := fun _ _ => False
  ct := fun _ _ => False
theorem sg_ifA {J : Type} {t : Expr} {a b : List Stmt} {pos : Pos} {gt : Env → W Bool} {mt : W Bool} {emb : J → Env} {ma mb : W J} {k : J → W γ} (ht : T G X Wx t gt) (hg : gt (bor ρ) = mt) (ha : SG G X Wx a ρ (EnJ emb) ma) (hb : SG G X Wx b ρ (EnJ emb) mb) (hr : ∀ j, SG G X Wx rest (emb j) En (k j)) :
    SG G X Wx (.If t a b pos :: rest) ρ En (bnd mt fun x => bnd (if x = true then ma else mb) k) :=
  weakSs (pss_cons (ps_if ht ha hb) (pss_un hr)) fun Dn σ H ⟨c, n, P, PX, I, q, hgl, hx⟩ => by
    obtain ⟨I2, g2⟩ := I.lend
    subst hg
    refine tT.bnd (f := fun x => bnd (if x = true then ma else mb) k) I2 q (hx.grow g2).x fun b k' S' H' p g I' hx' => ?_
    obtain ⟨I3, g3⟩ := I.back g I'
    have hgl3 := hgl.grow g3
    have hx3 := hx.grow g3
    have hE : GlE G X (EnJ emb) (c.to fun a => S' a ∧ ¬ ownS ρ σ a) H' (fun j k' => k j k' P PX) PX { Dn with nx := fun σ H => ∃ j, tG G X Wx (emb j) En (k j) Dn σ H } := by
      refine ⟨?_, fun _ _ _ _ _ _ _ _ z => z.elim, fun _ _ _ _ _ _ z => z.elim, fun _ _ _ _ _ _ z => z.elim⟩
      rintro ρ' _ k5 σ' S' H' ⟨j, rfl, le⟩ p g I
      exact ⟨j, _, k5, P, PX, I.le le, p, hgl3.grow g, hx3.grow g⟩
    cases b with
    | true => exact iteT ⟨_, k', _, PX, I3, p, hE, hx3⟩
    | false => exact iteF ⟨_, k', _, PX, I3, p, hE, hx3⟩
/-- .. with other ends in its ways -/
def joinK {J γ : Type} (k : J → W γ) : Step J γ → W γ
  | .go j => k j
  | .bk j => k j
  | .out g => ret g
def Enz.join {J : Type} (En : Enz γ) (emb : J → Env) : Enz (Step J γ) where
  nx := fun ρ m => ∃ j, m = ret (.go j) ∧ Le ρ (emb j)
  rt := fun d m => ∃ mg, En.rt d mg ∧ m = bnd mg fun g => ret (.out g)
  bk := fun ρ m => ∃ mg, En.bk ρ mg ∧ m = bnd mg fun g => ret (.out g)
  ct := fun ρ m => ∃ mg, En.ct ρ mg ∧ m = bnd mg fun g => ret (.out g)
theorem sg_ifJ {J : Type} {t : Expr} {a b : List Stmt} {pos : Pos} {gt : Env → W Bool} {mt : W Bool} {emb : J → Env} {ma mb : W (Step J γ)} {k : J → W γ} (ht : T G X Wx t gt) (hg : gt (bor ρ) = mt) (ha : SG G X Wx a ρ (En.join emb) ma) (hb : SG G X Wx b ρ (En.join emb) mb) (hr : ∀ j, SG G X Wx rest (emb j) En (k j)) :
    SG G X Wx (.If t a b pos :: rest) ρ En (bnd mt fun x => bnd (if x = true then ma else mb) (joinK k)) :=
  weakSs (pss_cons (ps_if ht ha hb) (pss_un hr)) fun Dn σ H ⟨c, n, P, PX, I, q, hgl, hx⟩ => by
    obtain ⟨I2, g2⟩ := I.lend
    subst hg
    refine tT.bnd (f := fun x => bnd (if x = true then ma else mb) (joinK k)) I2 q (hx.grow g2).x fun b k' S' H' p g I' hx' => ?_
    obtain ⟨I3, g3⟩ := I.back g I'
    have hgl3 := hgl.grow g3
    have hx3 := hx.grow g3
    have hE : GlE G X (En.join emb) (c.to fun a => S' a ∧ ¬ ownS ρ σ a) H' (fun o k' => joinK k o k' P PX) PX { Dn with nx := fun σ H => ∃ j, tG G X Wx (emb j) En (k j) Dn σ H } := by
      refine ⟨?_, ?_, ?_, ?_⟩
      · rintro ρ' _ k5 σ' S' H' ⟨j, rfl, le⟩ p g I
        exact ⟨j, _, k5, P, PX, I.le le, p, hgl3.grow g, hx3.grow g⟩
      · rintro d5 _ k5 v5 σ5 ρ5 S5 H5 ⟨mg, hrt, rfl⟩ p6 g5 I5 r5
        exact hgl3.2.1 d5 mg k5 v5 σ5 ρ5 S5 H5 hrt p6 g5 I5 r5
      · rintro ρ5 _ k5 σ5 S5 H5 ⟨mg, hrt, rfl⟩ p6 g5 I5
        exact hgl3.2.2.1 ρ5 mg k5 σ5 S5 H5 hrt p6 g5 I5
      · rintro ρ5 _ k5 σ5 S5 H5 ⟨mg, hrt, rfl⟩ p6 g5 I5
        exact hgl3.2.2.2 ρ5 mg k5 σ5 S5 H5 hrt p6 g5 I5
    cases b with
    | true => exact iteT ⟨_, k', _, PX, I3, p, hE, hx3⟩
    | false => exact iteF ⟨_, k', _, PX, I3, p, hE, hx3⟩
end

/-! ### defs -/
/-- a def's own ends -/
def EnT : Enz D := ⟨fun _ m => m = ret .non, fun d m => m = ret d, fun _ _ => False, fun _ _ => False⟩
theorem sg_retT {G : PenK} {X : Cx} {Wx : WX} {ρ : Env} {En : Enz D} {rest : List Stmt} {e : Expr} {pos : Pos} {g : Env → W D} {m : W D} (h : E G X Wx e g) (hg : g (bor ρ) = m) (hr : ∀ d, En.rt d (ret d)) : SG G X Wx (.Return (some e) pos :: rest) ρ En m :=
  sg_retD (r := ret) h hg hr
section
variable {G : PenK} {P : Program} {w : World} {K : PySem.W.Frag} {mg : Str → Option Value} {base : Heap}
/-- THE RULE for a def: its body told by values -/
theorem fn_okGC {k : Nat} {f : Addr} {fd : FuncData} {x qual : Str} {st : Stmt} {N ps : List Str} {m : List SV → W D} {Sh : List SV → Prop} (F : Fun K x qual st f fd) (S : FnScope N ps (defScope st)) (hn : ps.length ≤ N.length) (hm : ∀ args n P PX, m args n P PX → Sh args)
    (body : ∀ args, Sh args → ∀ (cdv : Value) (A : Around) (outer : List PySem.Env) (s : Shared) (H : Hp) (E : XK) (Wx : WX), fd.code = cdv → A.guards = some [] → Room k (A.deeper (envOfC qual (defScope st) s.heap.objs.size f cdv)) → Takes (cxOf (L2.CX P w) P w K mg base N qual (defScope st) f cdv A outer s H E) Wx →
      PassesOwn (model P w) (A.deeper (envOfC qual (defScope st) s.heap.objs.size f cdv)) (envOfC qual (defScope st) s.heap.objs.size f cdv) (cxOf (L2.CX P w) P w K mg base N qual (defScope st) f cdv A outer s H E).xe → SG G (cxOf (L2.CX P w) P w K mg base N qual (defScope st) f cdv A outer s H E) Wx (defBody st) (args ++ List.replicate (N.length - args.length) .un) EnT (m args)) :
    FnG P w K mg base (k + 1) f fd ps (spM G K mg ps.length m) := by
  refine FnG.of_bodyC F S (fun vs H Q E ⟨S, pen, args, n, P, PX, hl, _, _, _, _, r, _⟩ => r.len.trans hl) fun cdv A outer s H vs Q E hcc hg hr ⟨S0, pen, args, n, P0, PX, hl, dom, hp, ht, hmu, r, q, hq, hx⟩ => ?_
  refine ⟨_, body args (hm args n P0 PX q) cdv A outer s H E (fun cls d _ H => E cls d H) hcc hg hr (L2.takes_of rfl rfl rfl rfl) (passes_of rfl), ?_⟩
  refine ⟨⟨S0, H, pen, fun a => H a ≠ none ∧ ¬ S0 a, fun a => n.μ a ≠ none⟩, n, P0, PX, SI.entry (by omega) dom hp ht hmu r, q, ⟨?_, ?_, fun _ _ _ _ _ _ z => z.elim, fun _ _ _ _ _ _ z => z.elim⟩, fun x k σ' ρ' S' H' cls dd p g I r => hx x k S' H' cls dd p (SI.after g I) r⟩
  · rintro ρ' _ k σ' S' H' rfl p g I
    exact hq .non k .non S' H' p (SI.after g I) rfl
  · rintro d _ k v σ' ρ' S' H' rfl p g I r
    exact hq d k v S' H' p (SI.after g I) r
/-- .. whose code is not asked for -/
theorem fn_okG {k : Nat} {f : Addr} {fd : FuncData} {x qual : Str} {st : Stmt} {N ps : List Str} {m : List SV → W D} {Sh : List SV → Prop} (F : Fun K x qual st f fd) (S : FnScope N ps (defScope st)) (hn : ps.length ≤ N.length) (hm : ∀ args n P PX, m args n P PX → Sh args)
    (body : ∀ args, Sh args → ∀ (cdv : Value) (A : Around) (outer : List PySem.Env) (s : Shared) (H : Hp) (E : XK) (Wx : WX), A.guards = some [] → Room k (A.deeper (envOfC qual (defScope st) s.heap.objs.size f cdv)) → Takes (cxOf (L2.CX P w) P w K mg base N qual (defScope st) f cdv A outer s H E) Wx →
      PassesOwn (model P w) (A.deeper (envOfC qual (defScope st) s.heap.objs.size f cdv)) (envOfC qual (defScope st) s.heap.objs.size f cdv) (cxOf (L2.CX P w) P w K mg base N qual (defScope st) f cdv A outer s H E).xe → SG G (cxOf (L2.CX P w) P w K mg base N qual (defScope st) f cdv A outer s H E) Wx (defBody st) (args ++ List.replicate (N.length - args.length) .un) EnT (m args)) :
    FnG P w K mg base (k + 1) f fd ps (spM G K mg ps.length m) :=
  fn_okGC F S hn hm fun args hs cdv A outer s H E Wx _ => body args hs cdv A outer s H E Wx
end
end PL

/-! Expressions whose mirrors reduce by themselves; statements by values. -/
namespace PL
open PySem PySem.Spec L2 PyProof.Rows

section
variable {α β : Type}
/-- a test of two parts -/
def andB (m k : W Bool) : W Bool := bnd m fun x => if x = true then k else ret false
def orB (m k : W Bool) : W Bool := bnd m fun x => if x = true then ret true else k
def andD (m k : W D) : W D := bnd m fun x => bnd (tru x) fun b => if b = true then k else ret x
def orD (m k : W D) : W D := bnd m fun x => bnd (tru x) fun b => if b = true then ret x else k
theorem andB_ret (a b : Bool) : andB (ret a) (ret b) = ret (a && b) := by cases a <;> rfl
theorem orB_ret (a b : Bool) : orB (ret a) (ret b) = ret (a || b) := by cases a <;> rfl
theorem andB_t (k : W Bool) : andB (ret true) k = k := rfl
theorem andB_f (k : W Bool) : andB (ret false) k = ret false := rfl
theorem orB_t (k : W Bool) : orB (ret true) k = ret true := rfl
theorem orB_f (k : W Bool) : orB (ret false) k = k := rfl
theorem andD_bl (a b : Bool) : andD (ret (.bl a)) (ret (.bl b)) = ret (.bl (a && b)) := by cases a <;> rfl
theorem orD_bl (a b : Bool) : orD (ret (.bl a)) (ret (.bl b)) = ret (.bl (a || b)) := by cases a <;> rfl
theorem andD_t (k : W D) : andD (ret (.bl true)) k = k := rfl
theorem andD_f (k : W D) : andD (ret (.bl false)) k = ret (.bl false) := rfl
theorem thenB_bl (a b : Bool) : thenB (ret (.bl a)) (ret (.bl b)) = ret (.bl (a && b)) := by cases a <;> rfl

def intI : D → W Int
  | .int i => ret i
  | _ => stuck
def lenI : D → W Int
  | .lst xs => ret xs.length
  | .tup xs => ret xs.length
  | .str x => ret x.length
  | .dic kvs => ret kvs.length
  | _ => stuck
def mulI (i j : Int) : W Int := grd (CMul i j) (ret (i * j))
def fdivI (i j : Int) : W Int := grd (CDiv i j) (ret (i / j))
def modI (i j : Int) : W Int := grd (0 < j) (ret (i % j))
def addS (a b : Str) : W Str := grd (a.length + b.length ≤ sizeLine) (ret (a ++ b))
def addL (a b : List D) : W (List D) := grd (a.length + b.length ≤ sizeLine) (ret (a ++ b))
def eqB (a b : D) : W Bool := grd (eqQ a b) (ret (PyData.eqv (py a) (py b)))
def neB (a b : D) : W Bool := grd (eqQ a b) (ret (!PyData.eqv (py a) (py b)))
/-- a draw below b -/
def drw (b : Int) : W Int := fun n P _ => n.n < drawMax ∧ 0 < b ∧ b < 1073741824 ∧ ∀ r k, 0 ≤ r → r < b → n.n ≤ k → k ≤ n.n + 1 → P r ⟨k, n.μ⟩
theorem drw_eq (b : Int) : callM drawM [.pen, .d (.int b)] = bnd (drw b) fun r => ret (.int r) := rfl
/-- a call without the source of draws -/
def cl (m : W D) : W D := fun n P PX => m ⟨0, n.μ⟩ (fun d k => P d ⟨n.n, k.μ⟩) fun x k => PX x ⟨n.n, k.μ⟩
theorem cl_ret (d : D) : cl (ret d) = ret d := rfl
theorem cl_rse (e : Exc) : cl (rse e) = rse e := rfl
theorem cl_eq {m : W D} {d : D} (h : m = ret d) : cl m = ret d := by rw [h]; rfl
theorem cl_call (m : List SV → W D) (x : D) : callM m [.d x] = cl (m [.d x]) := rfl
def unp2 : D → W (D × D)
  | .tup [a, b] => ret (a, b)
  | .lst [a, b] => ret (a, b)
  | _ => stuck
def unp3 : D → W (D × D × D)
  | .tup [a, b, c] => ret (a, b, c)
  | .lst [a, b, c] => ret (a, b, c)
  | _ => stuck
theorem setT_tp2 (i j : Nat) (x : D) (ρ : Env) : setT (.tp [.nm i, .nm j]) x ρ = bnd (unp2 x) fun p => ret ((ρ.set i (.d p.1)).set j (.d p.2)) := by
  cases x with
  | tup xs =>
    match xs with
    | [] => funext n P X; exact propext ⟨fun h => (by have q := h.1; simp at q), fun h => False.elim h⟩
    | [a] => funext n P X; exact propext ⟨fun h => (by have q := h.1; simp at q), fun h => False.elim h⟩
    | [a, b] => exact grd_pos rfl _
    | a :: b :: c :: l => funext n P X; exact propext ⟨fun h => (by have q := h.1; simp at q), fun h => False.elim h⟩
  | lst xs =>
    match xs with
    | [] => funext n P X; exact propext ⟨fun h => (by have q := h.1; simp at q), fun h => False.elim h⟩
    | [a] => funext n P X; exact propext ⟨fun h => (by have q := h.1; simp at q), fun h => False.elim h⟩
    | [a, b] => exact grd_pos rfl _
    | a :: b :: c :: l => funext n P X; exact propext ⟨fun h => (by have q := h.1; simp at q), fun h => False.elim h⟩
  | _ => rfl
theorem setT_tp3 (i j l : Nat) (x : D) (ρ : Env) : setT (.tp [.nm i, .nm j, .nm l]) x ρ = bnd (unp3 x) fun p => ret (((ρ.set i (.d p.1)).set j (.d p.2.1)).set l (.d p.2.2)) := by
  cases x with
  | tup xs =>
    match xs with
    | [] => funext n P X; exact propext ⟨fun h => (by have q := h.1; simp at q), fun h => False.elim h⟩
    | [a] => funext n P X; exact propext ⟨fun h => (by have q := h.1; simp at q), fun h => False.elim h⟩
    | [a, b] => funext n P X; exact propext ⟨fun h => (by have q := h.1; simp at q), fun h => False.elim h⟩
    | [a, b, c] => exact grd_pos rfl _
    | a :: b :: c :: d :: l => funext n P X; exact propext ⟨fun h => (by have q := h.1; simp at q), fun h => False.elim h⟩
  | lst xs =>
    match xs with
    | [] => funext n P X; exact propext ⟨fun h => (by have q := h.1; simp at q), fun h => False.elim h⟩
    | [a] => funext n P X; exact propext ⟨fun h => (by have q := h.1; simp at q), fun h => False.elim h⟩
    | [a, b] => funext n P X; exact propext ⟨fun h => (by have q := h.1; simp at q), fun h => False.elim h⟩
    | [a, b, c] => exact grd_pos rfl _
    | a :: b :: c :: d :: l => funext n P X; exact propext ⟨fun h => (by have q := h.1; simp at q), fun h => False.elim h⟩
  | _ => rfl
/-- parts in a row -/
def bndL : List (W D) → (List D → W β) → W β
  | [], f => f []
  | m :: ms, f => bnd m fun x => bndL ms fun xs => f (x :: xs)
theorem bndL_bnd : ∀ (ms : List (W D)) (f : List D → W α) (k : α → W β), bnd (bndL ms f) k = bndL ms fun xs => bnd (f xs) k
  | [], _, _ => rfl
  | m :: ms, f, k => by
    show bnd m (fun x => bnd (bndL ms fun xs => f (x :: xs)) k) = bnd m _
    congr 1
    funext x
    exact bndL_bnd ms _ k
theorem bndL_len : ∀ (ms : List (W D)) {f f' : List D → W β}, (∀ xs, xs.length = ms.length → f xs = f' xs) → bndL ms f = bndL ms f'
  | [], _, _, h => h [] rfl
  | m :: ms, f, f', h => by
    show bnd m _ = bnd m _
    congr 1
    funext x
    exact bndL_len ms fun xs e => h (x :: xs) (by simp [e])
/-- a comprehension -/
def optK (k : D → W β) (m : W β) : Option D → W β
  | some y => k y
  | none => m
def compP (f : α → W (Option D)) : List α → W (List D)
  | [] => ret []
  | x :: xs => bnd (f x) (optK (fun y => bnd (compP f xs) fun ys => ret (y :: ys)) (compP f xs))
def fewN (n : Nat) (m : W β) : W β := grd (n ≤ sizeLine) m
/-- [f(x) for x in xs] -/
def mapP (f : α → W D) (xs : List α) : W (List D) := fewN xs.length (quiet (compP (fun x => bnd (f x) fun y => ret (some y)) xs))
/-- [f(x) for x in xs if t(x)] -/
def selP (t : α → W Bool) (f : α → W D) (xs : List α) : W (List D) := fewN xs.length (quiet (compP (fun x => bnd (t x) fun k => if k = true then bnd (f x) fun y => ret (some y) else ret none) xs))
theorem compP_map {γ : Type} (h : γ → α) (f : α → W (Option D)) : ∀ xs : List γ, compP f (xs.map h) = compP (fun x => f (h x)) xs
  | [] => rfl
  | x :: xs => by
    show bnd (f (h x)) _ = bnd (f (h x)) _
    rw [compP_map h f xs]
theorem compW_P {t : Tg} {gt : Env → W Bool} {ge : Env → W D} {ρ : Env} : ∀ xs : List D, compW t gt ge ρ xs = compP (fun x => bnd (setT t x ρ) fun ρ' => bnd (gt ρ') fun k => if k = true then bnd (ge ρ') fun y => ret (some y) else ret none) xs
  | [] => rfl
  | x :: xs => by
    show bnd (setT t x ρ) _ = bnd (bnd (setT t x ρ) _) _
    rw [bnd_bnd]
    congr 1
    funext ρ'
    rw [bnd_bnd]
    congr 1
    funext b
    rw [← compW_P xs]
    cases b <;> rfl
end

section
variable {G : PenK} {X : Cx} {Wx : WX}
theorem E.filt {e : Expr} {g : Env → W D} {h : D → W D} (he : E G X Wx e g) (hh : ∀ x k P PX, h x k P PX → P x k) : E G X Wx e (fun ρ => bnd (g ρ) h) :=
  weakE he fun σ H Q ⟨c, ρ, n, P, PX, I, q, hg, hx⟩ => ⟨c, ρ, n, fun x k => h x k P PX, PX, I, q, fun d k v S' H' p g I' r => hg d k v S' H' (hh d k P PX p) g I' r, hx⟩
theorem E.eq {e : Expr} {g g' : Env → W D} (he : E G X Wx e g) (h : g = g') : E G X Wx e g' := h ▸ he
theorem e_asI {e : Expr} {g : Env → W D} (he : E G X Wx e g) : E G X Wx e (fun ρ => bnd (g ρ) fun x => bnd (intI x) fun i => ret (.int i)) :=
  he.filt fun x k P PX h => by cases x <;> first | exact h | exact False.elim h
theorem e_lenI {p pos : Pos} {e : Expr} {g : Env → W D} (hm : X.mg "len" = none) (h : E G X Wx e g) (hg : Gl X "len" := by rfl) (he : starEach [e] X.env = (false, eval e X.env) :: starEach [] X.env := by rfl) :
    E G X Wx (.Call (.Name "len" p) [e] [] pos) (fun ρ => bnd (g ρ) fun x => bnd (lenI x) fun i => ret (.int i)) :=
  (e_len' hm h hg he).eq (by
    have q : lenD = fun x => bnd (lenI x) fun i => ret (.int i) := by funext x; cases x <;> rfl
    rw [q])
/-! ### comparisons of known kinds -/
def eqI : D → D → W D
  | .int i, .int j => ret (.bl (decide (i = j)))
  | _, _ => stuck
def neI : D → D → W D
  | .int i, .int j => ret (.bl (!decide (i = j)))
  | _, _ => stuck
def eqS : D → D → W D
  | .str i, .str j => ret (.bl (i == j))
  | _, _ => stuck
def neS : D → D → W D
  | .str i, .str j => ret (.bl (!(i == j)))
  | _, _ => stuck
theorem neD_int (i j : Int) : neD (.int i) (.int j) = PL.ret (.bl (!decide (i = j))) := by
  unfold neD
  rw [grd_pos (.inl ⟨rfl, rfl⟩)]
  simp only [py, PyData.eqv]
  rfl
theorem Cm.imp {op : CmpOp} {h h' : D → D → W D} (m : Cm G X Wx op h) (hh : ∀ d e n P PX, h' d e n P PX → h d e n P PX) : Cm G X Wx op h' := by
  obtain ⟨r, o, v⟩ := m
  exact ⟨r, o, fun c σ ρ H n P PX d e v' w Q I rd re q hg hx => v c σ ρ H n P PX d e v' w Q I rd re (hh d e n P PX q) hg hx⟩
theorem cm_eqI (hu : X.A.units + 64 < cLine) : Cm G X Wx .Eq eqI := (cm_eq hu).imp fun d e n P PX h => by
  cases d <;> cases e <;> first | (rw [eqD_int]; exact h) | exact False.elim h
theorem cm_neI (hu : X.A.units + 64 < cLine) : Cm G X Wx .NotEq neI := (cm_ne hu).imp fun d e n P PX h => by
  cases d <;> cases e <;> first | (rw [neD_int]; exact h) | exact False.elim h
theorem cm_eqS (hu : X.A.units + 64 < cLine) : Cm G X Wx .Eq eqS := (cm_eq hu).imp fun d e n P PX h => by
  cases d <;> cases e <;> first | (rw [eqD_str]; exact h) | exact False.elim h
theorem cm_neS (hu : X.A.units + 64 < cLine) : Cm G X Wx .NotEq neS := (cm_ne hu).imp fun d e n P PX h => by
  cases d <;> cases e <;> first | (rw [neD_str]; exact h) | exact False.elim h
/-- a ** b of written numbers -/
theorem e_powC {a b : Expr} {pos : Pos} {i j v : Int} (ha : E G X Wx a (fun _ => ret (.int i))) (hb : E G X Wx b (fun _ => ret (.int j))) (h : CPow i j := by unfold CPow; decide +kernel) (hv : i ^ j.toNat = v := by decide +kernel) : E G X Wx (.BinOp a .Pow b pos) (fun _ => ret (.int v)) :=
  (e_pow ha hb).eq (by
    funext ρ
    show powD (.int i) (.int j) = _
    rw [← hv]
    exact grd_pos h _)
/-! ### displays -/
def AL (G : PenK) (X : Cx) (Wx : WX) (es : List Expr) (gs : List (Env → W D)) : Prop := A G X Wx es (fun ρ => bndL (gs.map fun g => g ρ) ret)
theorem A.eq {es : List Expr} {g g' : Env → W (List D)} (he : A G X Wx es g) (h : g = g') : A G X Wx es g' := h ▸ he
theorem al_nil : AL G X Wx [] [] := a_nil
theorem al_cons {e : Expr} {es : List Expr} {g : Env → W D} {gs : List (Env → W D)} (h : E G X Wx e g) (hs : AL G X Wx es gs) (hp : starEach (e :: es) X.env = (false, eval e X.env) :: starEach es X.env := by rfl) : AL G X Wx (e :: es) (g :: gs) :=
  (a_cons h hs hp).eq (by
    funext ρ
    show bnd (g ρ) (fun x => bnd (bndL (gs.map fun g => g ρ) ret) fun xs => ret (x :: xs)) = bnd (g ρ) fun x => bndL (gs.map fun g => g ρ) fun xs => ret (x :: xs)
    congr 1
    funext x
    rw [bndL_bnd]
    rfl)
theorem bndL_few {β : Type} {ms : List (W D)} {f : List D → W β} (h : ms.length ≤ 1000) : bnd (bndL ms ret) (fun xs => few xs (f xs)) = bndL ms f := by
  rw [bndL_bnd]
  exact bndL_len ms fun xs e => fewS (by omega) _
theorem e_tupL {es : List Expr} {x1 : Nat} {pos : Pos} {gs : List (Env → W D)} (h : AL G X Wx es gs) (hz : gs.length ≤ 1000 := by decide) : E G X Wx (.Tuple es x1 pos) (fun ρ => bndL (gs.map fun g => g ρ) fun xs => ret (.tup xs)) :=
  (e_tup h).eq (by funext ρ; exact bndL_few (by simpa using hz))
theorem EO.eq {e : Expr} {g g' : Env → W (List D)} (he : EO G X Wx e g) (h : g = g') : EO G X Wx e g' := h ▸ he
theorem o_lstL {es : List Expr} {pos : Pos} {gs : List (Env → W D)} (h : AL G X Wx es gs) (hz : gs.length ≤ 1000 := by decide) : EO G X Wx (.List es pos) (fun ρ => bndL (gs.map fun g => g ρ) ret) :=
  (o_lst h).eq (by funext ρ; exact bndL_few (by simpa using hz))
/-! ### comprehensions -/
theorem grd_onB {α : Type} (b : Bool) (m : W α) : grd (b = true) m = onB b m := by
  cases b with
  | true => exact grd_pos rfl m
  | false => funext n P X; exact propext ⟨fun h => (by have q := h.1; simp at q), fun h => False.elim h⟩
/-- what a comprehension's mirror is, over the values that its target takes -/
def compM {α β : Type} (mu : β → W α) (e : α → Env → Env) (vs : List Nat) (gt : Env → W Bool) (ge : Env → W D) (ρ : Env) (xs : List β) : W (List D) :=
  onB (noOwn vs ρ) (fewN xs.length (quiet (compP (fun x => bnd (mu x) fun a => bnd (gt (e a (wip vs ρ))) fun k => if k = true then bnd (ge (e a (wip vs ρ))) fun y => ret (some y) else ret none) xs)))
theorem grd_swap {α : Type} (p q : Prop) (m : W α) : grd p (grd q m) = grd q (grd p m) := by
  funext n P X
  exact propext ⟨fun ⟨a, b, c⟩ => ⟨b, a, c⟩, fun ⟨a, b, c⟩ => ⟨b, a, c⟩⟩
theorem compM_eq {α β : Type} {t : Tg} {f : β → D} {tt : List β → List D} {mu : β → W α} {e : α → Env → Env} (htt : ∀ ys, tt ys = ys.map f) (hs : ∀ x ρ, setT t (f x) ρ = bnd (mu x) fun a => ret (e a ρ)) (vs : List Nat) (gt : Env → W Bool) (ge : Env → W D) (ρ : Env) (ys : List β) :
    few (tt ys) (grd (noOwn vs ρ = true) (quiet (compW t gt ge (wip vs ρ) (tt ys)))) = compM mu e vs gt ge ρ ys := by
  unfold compM few fewN
  rw [grd_swap, grd_onB, compW_P, htt, compP_map, List.length_map]
  simp only [hs, bnd_bnd, bnd_ret]
theorem o_lcQ {α β : Type} {elt tg iter : Expr} {ifs : List Expr} {scope : Scope} {own : List (Str × Nat)} {pos : Pos} {t : Tg} {gy : Env → W (List β)} {tt : List β → List D} {f : β → D} {gt : Env → W Bool} {ge : Env → W D} {mu : β → W α} {ee : α → Env → Env} (htt : ∀ ys, tt ys = ys.map f) (hsT : ∀ x ρ, setT t (f x) ρ = bnd (mu x) fun a => ret (ee a ρ)) (hc : X.calm = true) (hN : X.N.Nodup) (hi : Wk G X Wx tg iter (fun ρ => bnd (gy ρ) fun ys => ret (tt ys))) (ok : BlkOk X.N X.env.scope scope own)
    (hg : ∀ (s : Shared) (H : Hp) (A : Addr) (cl : List (Str × Addr)) (fp : List Addr), PTg (X.blk s H scope (compEnvC scope cl A X.env) fp) tg t) (ht : ∀ (s : Shared) (H : Hp) (A : Addr) (cl : List (Str × Addr)) (fp : List Addr), Ts G (X.blk s H scope (compEnvC scope cl A X.env) fp) ifs gt)
    (he : ∀ (s : Shared) (H : Hp) (A : Addr) (cl : List (Str × Addr)) (fp : List Addr), E G (X.blk s H scope (compEnvC scope cl A X.env) fp) WF elt ge) (hix : ∀ i ∈ t.ix, i ∈ own.map (·.2) := by decide) (hs : ∀ x, foldedSetIterable iter X.env x = pure x := by intro _; rfl) :
    EO G X Wx (.ListComp elt [⟨tg, iter, ifs, 0⟩] scope pos) (fun ρ => bnd (gy ρ) (compM mu ee (own.map (·.2)) gt ge ρ)) :=
  (o_lc hc hN hi ok hg ht he hix hs).eq (by
    funext ρ
    show bnd (bnd (gy ρ) _) _ = _
    rw [bnd_bnd]
    congr 1
    funext xs
    exact compM_eq htt hsT _ _ _ _ _)
/-! ### walks -/
theorem Wk.eq {tg e : Expr} {g g' : Env → W (List D)} (he : Wk G X Wx tg e g) (h : g = g') : Wk G X Wx tg e g' := h ▸ he
def rngZ (lo : Int) (n : Nat) : List Int := (List.range n).map fun i => lo + (i : Nat)
theorem rngZ_map (lo : Int) (n : Nat) : rng lo n = (rngZ lo n).map .int := by
  unfold rng rngZ
  rw [List.map_map]
  rfl
def rngI (i : Int) : W (List Int) := grd (inR i) (ret (rngZ 0 i.toNat))
def rngI2 (i j : Int) : W (List Int) := grd (inR i ∧ inR j) (ret (rngZ i (j - i).toNat))
def rngD : D → W (List Int)
  | .int i => rngI i
  | _ => stuck
def rngD2 : D → D → W (List Int)
  | .int i, .int j => rngI2 i j
  | _, _ => stuck
def seqT {α : Type} (xs : List α) : List α := xs
theorem seqT_map (ys : List D) : (fun ys : List D => ys) ys = ys.map fun y => y := by simp
theorem w_seqZ {tg e : Expr} {g : Env → W D} (h : E G X Wx e g) : Wk G X Wx tg e (fun ρ => bnd (bnd (g ρ) items) fun ys => ret ys) := w_seq h
theorem w_rng1Z {tg e : Expr} {p pos : Pos} {g : Env → W D} (hm : X.mg "range" = none) (h : E G X Wx e g) (hg : Gl X "range" := by rfl) (hs : starEach [e] X.env = [(false, eval e X.env)] := by rfl) : Wk G X Wx tg (.Call (.Name "range" p) [e] [] pos) (fun ρ => bnd (bnd (g ρ) rngD) fun ys => ret (ys.map .int)) :=
  (w_rng1 hm h hg hs).eq (by
    have q : rng1 = fun d => bnd (rngD d) fun ys => ret (ys.map D.int) := by
      funext d
      cases d with
      | int i =>
        show grd _ (ret (rng 0 i.toNat)) = _
        rw [rngZ_map]
        rfl
      | _ => rfl
    rw [q]
    rfl)
def enumZ (i : Nat) : List D → List (Int × D)
  | [] => []
  | x :: xs => ((i : Int), x) :: enumZ (i + 1) xs
def eT (p : Int × D) : D := .tup [.int p.1, p.2]
theorem enumZ_map : ∀ (i : Nat) (xs : List D), enumFrom i xs = (enumZ i xs).map eT
  | _, [] => rfl
  | i, x :: xs => by
    show _ :: enumFrom (i + 1) xs = _ :: _
    rw [enumZ_map (i + 1) xs]
    rfl
def enumI (d : D) : W (List (Int × D)) := bnd (items d) fun xs => ret (enumZ 0 xs)
theorem w_enumZ {elts : List Expr} {kk : Nat} {tpos p pos : Pos} {e : Expr} {g : Env → W D} (hm : X.mg "enumerate" = none) (h : E G X Wx e g) (hg : Gl X "enumerate" := by rfl) (hs : starEach [e] X.env = [(false, eval e X.env)] := by rfl) :
    Wk G X Wx (.Tuple elts kk tpos) (.Call (.Name "enumerate" p) [e] [] pos) (fun ρ => bnd (bnd (g ρ) enumI) fun ys => ret (ys.map eT)) :=
  (w_enum hm h hg hs).eq (by
    have q : enumD = fun d => bnd (enumI d) fun ys => ret (ys.map eT) := by
      funext d
      cases d with
      | lst xs => show ret (enumFrom 0 xs) = _; rw [enumZ_map]; rfl
      | tup xs => show ret (enumFrom 0 xs) = _; rw [enumZ_map]; rfl
      | _ => rfl
    rw [q]
    rfl)
def chD (k : Nat) : D := .str ⟨#[k]⟩
def codesD : D → W (List Nat)
  | .str x => ret x.cps.toList
  | _ => stuck
theorem w_strZ {tg e : Expr} {g : Env → W D} (h : E G X Wx e g) : Wk G X Wx tg e (fun ρ => bnd (bnd (g ρ) codesD) fun ys => ret (ys.map chD)) :=
  (w_str h).eq (by
    have q : signs = fun d => bnd (codesD d) fun ys => ret (ys.map chD) := by
      funext d
      cases d <;> rfl
    rw [q]
    rfl)
theorem eT_inj (a b : Int × D) (h : eT a = eT b) : a = b := by
  cases a; cases b
  unfold eT at h
  simp at h
  simp [h]
theorem chD_inj (a b : Nat) (h : chD a = chD b) : a = b := by
  unfold chD at h
  simp at h
  exact h
theorem int_inj (a b : Int) (h : D.int a = D.int b) : a = b := D.int.inj h
theorem bl_inj (a b : Bool) (h : D.bl a = D.bl b) : a = b := D.bl.inj h
theorem str_inj (a b : Str) (h : D.str a = D.str b) : a = b := D.str.inj h
theorem lst_inj (a b : List D) (h : D.lst a = D.lst b) : a = b := D.lst.inj h
theorem tup_inj (a b : List D) (h : D.tup a = D.tup b) : a = b := D.tup.inj h
theorem dic_inj (a b : List (Key × D)) (h : D.dic a = D.dic b) : a = b := D.dic.inj h
theorem id_inj {α : Type} (a b : α) (h : (fun x : α => x) a = (fun x : α => x) b) : a = b := h
theorem setT_1 (i : Nat) {β : Type} (f : β → D) (x : β) (ρ : Env) : setT (.nm i) (f x) ρ = bnd (ret x) fun a => ret (ρ.set i (.d (f a))) := rfl
theorem setT_e (i j : Nat) (p : Int × D) (ρ : Env) : setT (.tp [.nm i, .nm j]) (eT p) ρ = bnd (ret p) fun p => ret ((ρ.set i (.d (.int p.1))).set j (.d p.2)) := grd_pos rfl _
/-! ### statements by values -/
variable {γ : Type} {En : Enz γ} {ρ : Env} {rest : List Stmt} {m : W γ}
theorem lt_lit {ρ : Env} {i L : Nat} (h : ρ.length = L) (hi : i < L) : i < ρ.length := h ▸ hi
theorem set_inj {α : Type} {f : α → D} {i : Nat} (hi : i < ρ.length) (inj : ∀ a b, f a = f b → a = b) (a b : α) (h : ρ.set i (.d (f a)) = ρ.set i (.d (f b))) : a = b := by
  have q := congrArg (·[i]?) h
  simp only [List.getElem?_set_self hi] at q
  exact inj a b (SV.d.inj (Option.some.inj q))
theorem own_inj {α : Type} {f : α → List D} {i : Nat} (hi : i < ρ.length) (inj : ∀ a b, f a = f b → a = b) (a b : α) (h : ρ.set i (.own (f a)) = ρ.set i (.own (f b))) : a = b := by
  have q := congrArg (·[i]?) h
  simp only [List.getElem?_set_self hi] at q
  exact inj a b (SV.own.inj (Option.some.inj q))
/-- x = e -/
theorem sg_asg {tg e : Expr} {pos : Pos} {g : Env → W D} {α : Type} {m0 : W α} {f : α → D} {k : α → W γ} {ρ' : α → Env} (i L : Nat) (h : E G X Wx e g) (ht : PTg X tg (.nm i)) (hg : g ρ = bnd m0 fun a => ret (f a)) (inj : ∀ a b, f a = f b → a = b) (hL : ρ.length = L) (hi : i < L) (hρ : ∀ a, ρ.set i (.d (f a)) = ρ' a) (hr : ∀ a, SG G X Wx rest (ρ' a) En (k a))
    (h1 : (assignEach [tg] X.env).map (·.2) = [assign tg X.env] := by rfl) (hs : swapsWithSole [tg] e pos.line X.env = pure false := by rfl) (hw : swappedStores [tg] e X.env = pure none := by rfl) : SG G X Wx (.Assign [tg] e pos :: rest) ρ En (bnd m0 k) :=
  sg_stmt (s_asg h ht h1 hs hw) (by rw [hg]; rfl) (set_inj (lt_lit hL hi) inj) fun a => by rw [hρ]; exact hr a
/-- x = e, e known -/
theorem sg_asgP {tg e : Expr} {pos : Pos} {g : Env → W D} {d : D} {ρ' : Env} (i : Nat) (h : E G X Wx e g) (ht : PTg X tg (.nm i)) (hg : g ρ = ret d) (hρ : ρ.set i (.d d) = ρ') (hr : SG G X Wx rest ρ' En m)
    (h1 : (assignEach [tg] X.env).map (·.2) = [assign tg X.env] := by rfl) (hs : swapsWithSole [tg] e pos.line X.env = pure false := by rfl) (hw : swappedStores [tg] e X.env = pure none := by rfl) : SG G X Wx (.Assign [tg] e pos :: rest) ρ En m :=
  sg_stmt (m0 := ret ()) (e := fun _ => ρ.set i (.d d)) (k := fun _ => m) (s_asg h ht h1 hs hw) (by rw [hg]; rfl) (fun _ _ _ => rfl) fun _ => by rw [hρ]; exact hr
/-- x = [..] on one line -/
theorem sg_asgLc {α β : Type} {y : Str} {py spos : Pos} {elt tg iter : Expr} {ifs : List Expr} {scope : Scope} {own : List (Str × Nat)} {pos : Pos} {t : Tg} {gy : Env → W (List β)} {tt : List β → List D} {f : β → D} {gt : Env → W Bool} {ge : Env → W D} {mu : β → W α} {ee : α → Env → Env} {m0 : W (List D)} {k : List D → W γ} {ρ' : List D → Env} (i L : Nat) (htt : ∀ ys, tt ys = ys.map f) (hsT : ∀ x ρ, setT t (f x) ρ = bnd (mu x) fun a => ret (ee a ρ)) (hc : X.calm = true) (hN : X.N.Nodup) (hi : Wk G X Wx tg iter (fun ρ => bnd (gy ρ) fun ys => ret (tt ys))) (ok : BlkOk X.N X.env.scope scope own)
    (hg : ∀ (s : Shared) (H : Hp) (A : Addr) (cl : List (Str × Addr)) (fp : List Addr), PTg (X.blk s H scope (compEnvC scope cl A X.env) fp) tg t) (ht : ∀ (s : Shared) (H : Hp) (A : Addr) (cl : List (Str × Addr)) (fp : List Addr), Ts G (X.blk s H scope (compEnvC scope cl A X.env) fp) ifs gt)
    (he : ∀ (s : Shared) (H : Hp) (A : Addr) (cl : List (Str × Addr)) (fp : List Addr), E G (X.blk s H scope (compEnvC scope cl A X.env) fp) WF elt ge) (hm : bnd (gy ρ) (compM mu ee (own.map (·.2)) gt ge ρ) = m0) (hL : ρ.length = L) (hiL : i < L) (hρ : ∀ a, ρ.set i (.d (.lst a)) = ρ' a) (hr : ∀ a, SG G X Wx rest (ρ' a) En (k a)) (hy : X.N[i]? = some y := by rfl) (hyl : X.env.scope.names.lookup y = some .local := by rfl) (hix : ∀ i ∈ t.ix, i ∈ own.map (·.2) := by decide)
    (hk : X.env.scope.kind = .function := by rfl) (hln : (py.line == pos.line) = true := by rfl) (hsc : (scope.names.any fun (n, k) => n == y && (k == .local || k == .cell)) = false := by rfl) (hs : ∀ x, foldedSetIterable iter X.env x = pure x := by intro _; rfl) :
    SG G X Wx (.Assign [.Name y py] (.ListComp elt [⟨tg, iter, ifs, 0⟩] scope pos) spos :: rest) ρ En (bnd m0 k) :=
  sg_stmt (e := fun xs => ρ.set i (.d (.lst xs))) (s_asgLc i hc hN hi ok hg ht he hy hyl hix hk hln hsc hs) (by
    rw [← hm]
    show bnd (bnd (gy ρ) fun ys => few (tt ys) (grd (noOwn (own.map (·.2)) ρ = true) (quiet (compW t gt ge (wip (own.map (·.2)) ρ) (tt ys))))) _ = bnd (bnd (gy ρ) _) _
    congr 2
    funext xs
    exact compM_eq htt hsT _ _ _ _ _) (set_inj (f := .lst) (lt_lit hL hiL) fun _ _ h => D.lst.inj h) fun a => by rw [hρ]; exact hr a
/-- a, b = e -/
theorem sg_asg2 {tg e : Expr} {pos : Pos} {g : Env → W D} {α : Type} {m0 : W α} {f1 f2 : α → D} {k : α → W γ} {ρ' : α → Env} (i j L : Nat) (h : E G X Wx e g) (ht : PTg X tg (.tp [.nm i, .nm j])) (hg : bnd (g ρ) unp2 = bnd m0 fun a => ret (f1 a, f2 a)) (inj : ∀ a b, f1 a = f1 b → f2 a = f2 b → a = b) (hL : ρ.length = L) (hi : i < L) (hj : j < L) (hij : j ≠ i) (hρ : ∀ a, (ρ.set i (.d (f1 a))).set j (.d (f2 a)) = ρ' a) (hr : ∀ a, SG G X Wx rest (ρ' a) En (k a))
    (h1 : (assignEach [tg] X.env).map (·.2) = [assign tg X.env] := by rfl) (hs : swapsWithSole [tg] e pos.line X.env = pure false := by rfl) (hw : swappedStores [tg] e X.env = pure none := by rfl) : SG G X Wx (.Assign [tg] e pos :: rest) ρ En (bnd m0 k) :=
  sg_stmt (e := fun a => (ρ.set i (.d (f1 a))).set j (.d (f2 a))) (s_asg h ht h1 hs hw) (by
    have q : (fun d => bnd (setT (.tp [.nm i, .nm j]) d ρ) fun ρ' => ret (Out.nx ρ')) = fun d => bnd (unp2 d) fun p => ret (.nx ((ρ.set i (.d p.1)).set j (.d p.2))) := by
      funext d
      rw [setT_tp2]
      rfl
    rw [q, ← bnd_bnd, hg]
    rfl) (fun a b hab => by
    have q := congrArg (·[j]?) hab
    simp only [List.getElem?_set_self (show j < (ρ.set i (SV.d (f1 a))).length by simp [hL, hj]), List.getElem?_set_self (show j < (ρ.set i (SV.d (f1 b))).length by simp [hL, hj])] at q
    have q2 := congrArg (·[i]?) hab
    simp only [List.getElem?_set_ne hij, List.getElem?_set_self (show i < ρ.length by rw [hL]; exact hi)] at q2
    exact inj a b (SV.d.inj (Option.some.inj q2)) (SV.d.inj (Option.some.inj q))) fun a => by rw [hρ]; exact hr a
/-- a, b, c = e -/
theorem sg_asg3 {tg e : Expr} {pos : Pos} {g : Env → W D} {α : Type} {m0 : W α} {f1 f2 f3 : α → D} {k : α → W γ} {ρ' : α → Env} (i j l L : Nat) (h : E G X Wx e g) (ht : PTg X tg (.tp [.nm i, .nm j, .nm l])) (hg : bnd (g ρ) unp3 = bnd m0 fun a => ret (f1 a, f2 a, f3 a)) (inj : ∀ a b, f1 a = f1 b → f2 a = f2 b → f3 a = f3 b → a = b) (hL : ρ.length = L) (hi : i < L) (hj : j < L) (hl : l < L) (hij : j ≠ i) (hil : l ≠ i) (hjl : l ≠ j) (hρ : ∀ a, ((ρ.set i (.d (f1 a))).set j (.d (f2 a))).set l (.d (f3 a)) = ρ' a) (hr : ∀ a, SG G X Wx rest (ρ' a) En (k a))
    (h1 : (assignEach [tg] X.env).map (·.2) = [assign tg X.env] := by rfl) (hs : swapsWithSole [tg] e pos.line X.env = pure false := by rfl) (hw : swappedStores [tg] e X.env = pure none := by rfl) : SG G X Wx (.Assign [tg] e pos :: rest) ρ En (bnd m0 k) :=
  sg_stmt (e := fun a => ((ρ.set i (.d (f1 a))).set j (.d (f2 a))).set l (.d (f3 a))) (s_asg h ht h1 hs hw) (by
    have q : (fun d => bnd (setT (.tp [.nm i, .nm j, .nm l]) d ρ) fun ρ' => ret (Out.nx ρ')) = fun d => bnd (unp3 d) fun p => ret (.nx (((ρ.set i (.d p.1)).set j (.d p.2.1)).set l (.d p.2.2))) := by
      funext d
      rw [setT_tp3]
      rfl
    rw [q, ← bnd_bnd, hg]
    rfl) (fun a b hab => by
    have q := congrArg (·[l]?) hab
    simp only [List.getElem?_set_self (show l < ((ρ.set i (SV.d (f1 a))).set j (SV.d (f2 a))).length by simp [hL, hl]), List.getElem?_set_self (show l < ((ρ.set i (SV.d (f1 b))).set j (SV.d (f2 b))).length by simp [hL, hl])] at q
    have q1 := congrArg (·[j]?) hab
    simp only [List.getElem?_set_ne hjl, List.getElem?_set_self (show j < (ρ.set i (SV.d (f1 a))).length by simp [hL, hj]), List.getElem?_set_self (show j < (ρ.set i (SV.d (f1 b))).length by simp [hL, hj])] at q1
    have q2 := congrArg (·[i]?) hab
    simp only [List.getElem?_set_ne hil, List.getElem?_set_ne hij, List.getElem?_set_self (show i < ρ.length by rw [hL]; exact hi)] at q2
    exact inj a b (SV.d.inj (Option.some.inj q2)) (SV.d.inj (Option.some.inj q1)) (SV.d.inj (Option.some.inj q))) fun a => by rw [hρ]; exact hr a
/-- x = [..], of one's own -/
theorem sg_own {x : Str} {px pos : Pos} {e : Expr} {g : Env → W (List D)} {m0 : W (List D)} {k : List D → W γ} {ρ' : List D → Env} (i L : Nat) (h : EO G X Wx e g) (hN : X.N.Nodup) (hg : g ρ = m0) (hL : ρ.length = L) (hiL : i < L) (hρ : ∀ a, ρ.set i (.own a) = ρ' a) (hr : ∀ a, SG G X Wx rest (ρ' a) En (k a)) (hi : X.N[i]? = some x := by rfl) (hx : Loc X.env.scope x := by first | exact Or.inl rfl | exact Or.inr rfl) (hf : X.fn x = true ∨ X.env.scope.names.lookup x = some .local := by first | exact .inl rfl | exact .inr rfl)
    (hs : swapsWithSole [.Name x px] e pos.line X.env = pure false := by rfl) (hw : swappedStores [.Name x px] e X.env = pure none := by rfl) : SG G X Wx (.Assign [.Name x px] e pos :: rest) ρ En (bnd m0 k) :=
  sg_stmt (s_own i h hN hi hx hf hs hw) (by rw [hg]) (own_inj (f := fun a => a) (lt_lit hL hiL) fun _ _ h => h) fun a => by rw [hρ]; exact hr a
theorem sg_ownP {x : Str} {px pos : Pos} {e : Expr} {g : Env → W (List D)} {d : List D} {ρ' : Env} (i : Nat) (h : EO G X Wx e g) (hN : X.N.Nodup) (hg : g ρ = ret d) (hρ : ρ.set i (.own d) = ρ') (hr : SG G X Wx rest ρ' En m) (hi : X.N[i]? = some x := by rfl) (hx : Loc X.env.scope x := by first | exact Or.inl rfl | exact Or.inr rfl) (hf : X.fn x = true ∨ X.env.scope.names.lookup x = some .local := by first | exact .inl rfl | exact .inr rfl)
    (hs : swapsWithSole [.Name x px] e pos.line X.env = pure false := by rfl) (hw : swappedStores [.Name x px] e X.env = pure none := by rfl) : SG G X Wx (.Assign [.Name x px] e pos :: rest) ρ En m :=
  sg_stmt (m0 := ret ()) (e := fun _ => ρ.set i (.own d)) (k := fun _ => m) (s_own i h hN hi hx hf hs hw) (by rw [hg]; rfl) (fun _ _ _ => rfl) fun _ => by rw [hρ]; exact hr
/-- xs.append(e) -/
def roomL {α : Type} (xs : List D) (m : W α) : W α := grd (xs.length < sizeLine) m
theorem app_inj {α : Type} {f : α → D} {xs : List D} (inj : ∀ a b, f a = f b → a = b) (a b : α) (h : xs ++ [f a] = xs ++ [f b]) : a = b := inj a b (by
  have q := List.append_cancel_left h
  exact (List.cons.inj q).1)
theorem sg_app {x : Str} {px pa pc pos : Pos} {e : Expr} {g : Env → W D} {α : Type} {m0 : W α} {f : α → D} {k : α → W γ} {ρ' : α → Env} {xs : List D} (i L : Nat) (h : E G X Wx e g) (hx : ρ[i]? = some (.own xs)) (hg : g ρ = bnd m0 fun a => ret (f a)) (inj : ∀ a b, f a = f b → a = b) (hL : ρ.length = L) (hi : i < L) (hρ : ∀ a, ρ.set i (.own (xs ++ [f a])) = ρ' a) (hr : ∀ a, SG G X Wx rest (ρ' a) En (k a))
    (hN : X.N[i]? = some x := by rfl) (hv : Vis X.env.scope x := by first | exact Or.inl rfl | exact Or.inr (Or.inl rfl) | exact Or.inr (Or.inr rfl)) (hd : (x == ("__debug__" : Str)) = false := by decide)
    (hcd : (x == ("__classdict__" : Str)) = false := by decide) (hst : starEach [e] X.env = (false, eval e X.env) :: starEach [] X.env := by rfl)
    (hbase : attributeBase (.Name x px) "append" X.env (eval (.Name x px) X.env) = eval (.Name x px) X.env := by rfl)
    (hfew : ((backTo pc (starEach [e] X.env)).all (fun x => !x.1) && (backToKw pc (keywordEach [] X.env)).all (fun x => x.1.isSome)
      && decide (([e] : List Expr).length + ([] : List Keyword).length + (if ([] : List Keyword).isEmpty then 0 else 1) < 30)) = true := by rfl)
    (hline : (pa.endLine == pc.line) = true := by rfl) (hplain : (backTo pc (starEach [] X.env)).any (·.1) = false := by rfl) (hs : swapsWith (.Call (.Attribute (.Name x px) "append" pa) [e] [] pc) none pos.line X.env = pure false := by rfl) :
    SG G X Wx (.Expr (.Call (.Attribute (.Name x px) "append" pa) [e] [] pc) pos :: rest) ρ En (bnd m0 fun a => roomL xs (k a)) :=
  sg_eq (sg_stmt (m0 := bnd m0 fun a => roomL xs (ret a)) (e := fun a => ρ.set i (.own (xs ++ [f a]))) (k := k) (s_app i h hN hv hd hcd hst hbase hfew hline hplain hs) (by
    unfold ownAt
    rw [hx, hg]
    rfl) (own_inj (f := fun a => xs ++ [f a]) (lt_lit hL hi) (app_inj inj)) fun a => by rw [hρ]; exact hr a) rfl
/-- the law's def: its source is made, then its body by values -/
theorem law_defG {P : Program} {w : World} {K : PySem.W.Frag} {mg : Str → Option Value} {base : Heap} {k : Nat} {f ff : Addr} {fd fdf : FuncData} {st : Stmt} {N NR : List Str} {fn x0 x1 : Str} {px p p2 p3 px' : Pos} {rest : List Stmt} {b : W D} (F : Fun K "law" "law" st f fd) (S : FnScope N [x0] (defScope st))
    (hst : defBody st = .Assign [.Name x1 px] (.Call (.Name fn p) [.Name x0 p2] [] p3) px' :: rest) (hN : N = x0 :: x1 :: NR) (hf : (defScope st).names.lookup fn = some .globalImplicit) (hx0 : (defScope st).names.lookup x0 = some .local) (hx1 : Loc (defScope st) x1)
    (hd0 : (x0 == ("__debug__" : Str)) = false) (hc0 : (x0 == ("__classdict__" : Str)) = false) (hdf : (fn == ("__debug__" : Str)) = false)
    (GF : FnG P w K mg base k ff fdf [x0] (spFeed K)) (gF : mg fn = some (.ref ff)) (kF : PySem.W.keepIn K (.ref ff) = true) (bF : Binds K fdf [x0] [])
    (body : ∀ (cdv : Value) (A : Around) (outer : List PySem.Env) (s : Shared) (H : Hp) (E : XK) (Wx : WX), A.guards = some [] → Room k (A.deeper (envOfC "law" (defScope st) s.heap.objs.size f cdv)) → Takes (cxOf (L2.CX P w) P w K mg base N "law" (defScope st) f cdv A outer s H E) Wx →
      PassesOwn (model P w) (A.deeper (envOfC "law" (defScope st) s.heap.objs.size f cdv)) (envOfC "law" (defScope st) s.heap.objs.size f cdv) (cxOf (L2.CX P w) P w K mg base N "law" (defScope st) f cdv A outer s H E).xe → SG penG (cxOf (L2.CX P w) P w K mg base N "law" (defScope st) f cdv A outer s H E) Wx rest (.un :: .pen :: List.replicate NR.length .un) EnT b)
    (holds : b n0 (fun d _ => d = .bl true) (fun _ _ => False)) : FnG P w K mg base (k + 1) f fd [x0] (spLaw K) := by
  subst hN
  refine FnG.of_body F S (fun vs H Q E ⟨a, ns, e, _⟩ => by rw [e]; rfl) fun cdv A outer s H vs Q E hg hr ⟨a, ns, e, hS, hl, q⟩ => ?_
  subst e
  have hb := body cdv A outer s H E (fun cls d _ H => E cls d H) hg hr (L2.takes_of rfl rfl rfl rfl) (passes_of rfl)
  rw [hst]
  refine ⟨_, pss_cons (ps_set (i := 1) S.nd rfl hx1 (pe_callG (Wx := fun cls d _ H => E cls d H) GF hg hr (L2.takes_of rfl rfl rfl rfl) hf gF kF bF (pa_cons (pe_var (i := 0) rfl (.inl hx0) hd0 hc0) pa_nil) hdf)) hb, ?_⟩
  refine ⟨.ref a, rfl, a, ns, rfl, hS, hl, fun H' p b hpb sm hp hb' => ?_⟩
  have hlen : (L2.start (x0 :: x1 :: NR) [V.ref a]).set 1 (some (.ref p)) = some (.ref a) :: some (.ref p) :: List.replicate NR.length none := by
    unfold L2.start
    show (some (V.ref a) :: (List.replicate ((NR.length + 1 + 1) - 1) none)).set 1 _ = _
    rw [Nat.add_sub_cancel, List.replicate_succ]
    rfl
  have gp : penG.inv H' p b 0 := ⟨hpb, ns, 0, 0, hp, hb', hl, Int.le_refl _, Int.le_refl _, Int.le_refl _⟩
  show tG penG _ _ _ _ _ _ ((L2.start (x0 :: x1 :: NR) [V.ref a]).set 1 (some (.ref p))) H'
  rw [hlen]
  refine ⟨⟨fun _ => False, H', some (p, b), fun _ => False, fun _ => False⟩, n0, _, _, ⟨by simp, fun i sv e => ?_, fun i sv x e ho => ?_, fun i j sv sv' x _ e _ ho => ?_, fun _ h => h.elim, fun _ _ e _ => e, fun z e => ?_, fun _ h => h.elim, (fun _ h => nomatch h), (fun _ _ e => nomatch e), fun _ h => h.elim, fun _ _ => rfl⟩, holds, ⟨?_, ?_, fun _ _ _ _ _ _ z => z.elim, fun _ _ _ _ _ _ z => z.elim⟩, fun _ _ _ _ _ _ _ _ z => z.elim⟩
  · match i, e with
    | 0, e => cases e; trivial
    | 1, e => cases e; exact ⟨(p, b), rfl, rfl⟩
    | i + 2, e =>
      have e : (List.replicate NR.length SV.un)[i]? = some sv := e
      rw [List.getElem?_replicate] at e
      split at e
      · cases e; trivial
      · cases e
  · exfalso
    match i, e with
    | 0, e => cases e; cases ho
    | 1, e => cases e; cases ho
    | i + 2, e =>
      have e : (List.replicate NR.length SV.un)[i]? = some sv := e
      rw [List.getElem?_replicate] at e
      split at e
      · cases e; cases ho
      · cases e
  · exfalso
    match i, e with
    | 0, e => cases e; cases ho
    | 1, e => cases e; cases ho
    | i + 2, e =>
      have e : (List.replicate NR.length SV.un)[i]? = some sv := e
      rw [List.getElem?_replicate] at e
      split at e
      · cases e; cases ho
      · cases e
  · cases e
    exact ⟨gp, fun z => z, fun z => z, (by show H' p ≠ none; rw [hp]; exact fun z => (nomatch z)), (by show H' b ≠ none; rw [hb']; exact fun z => (nomatch z))⟩
  · rintro ρ' _ k σ' S' H2 rfl p g I
    exact nomatch (show D.non = D.bl true from p)
  · rintro d _ k v σ' ρ' S' H2 rfl p g I r
    have p : d = D.bl true := p
    subst p
    cases r
    exact q H2
end
end PL

/-! t[::-1] of a tuple or a list. -/
namespace PL
open PySem PySem.Spec L2 PyProof.Rows

section
variable {prog : Program} {w : World} {A : Around} {E : Value → Shared → Prop} {s : Shared}
theorem adjust_rev (n : Nat) : Builtin.Slice.sliceAdjust none none (-1) (n : Int) = ((n : Int) - 1, -1) := by
  unfold Builtin.Slice.sliceAdjust
  rfl
theorem places_rev (n : Nat) : Builtin.Slice.slicePlaces ((n : Int) - 1) (-1) (-1) = n := by
  unfold Builtin.Slice.slicePlaces
  have h1 : ¬ ((-1 : Int) > 0) := by omega
  simp only [h1, if_false]
  split
  · simp
  · omega
theorem pick_rev (xs : List Value) : ((List.range xs.length).filterMap fun (m : Nat) => xs[(((xs.length : Nat) : Int) - 1 + (m : Int) * -1).toNat]?) = xs.reverse := by
  have h := PySem.W.krv_all xs.reverse.toArray
  have h2 : (List.range xs.length).filterMap (fun m => xs.reverse.toArray[m]?) = xs.reverse := by simpa using h
  rw [← h2]
  have key : ∀ l : List Nat, (∀ m ∈ l, m < xs.length) → l.filterMap (fun (m : Nat) => xs[(((xs.length : Nat) : Int) - 1 + (m : Int) * -1).toNat]?) = l.filterMap (fun m => xs.reverse.toArray[m]?) := fun l => by
    induction l with
    | nil => intro _; rfl
    | cons m l ih =>
      intro hl
      have hm := hl m List.mem_cons_self
      have e : xs[(((xs.length : Nat) : Int) - 1 + (m : Int) * -1).toNat]? = xs.reverse.toArray[m]? := by
        rw [show (((xs.length : Nat) : Int) - 1 + (m : Int) * -1).toNat = xs.length - 1 - m by omega, List.getElem?_toArray, List.getElem?_reverse hm]
      rw [List.filterMap_cons, List.filterMap_cons, e, ih fun k hk => hl k (List.mem_cons_of_mem _ hk)]
  exact key _ fun m hm => List.mem_range.mp hm
theorem sliceApplied_rev {sl : Addr} {t : Tok} {n : Nat} {Q : Int × Int × Nat → Shared → Prop} (hs : s.heap.IsSliceOf sl .none .none (.int (-1) t))
    (h : Q ((n : Int) - 1, -1, n) s) : wpAny (model prog w) A (Builtin.Slice.sliceApplied (.ref sl) (pure (n : Int))) Q E s := by
  obtain ⟨os, hos, hcs, hds⟩ := id hs
  unfold Builtin.Slice.sliceApplied Builtin.Slice.sliceFields
  refine wpAny_bind (wpAny_bind (wpAny_field hos hds (x := .none) rfl (wpAny_bind (wpAny_field hos hds (x := .none) rfl (wpAny_bind (wpAny_field hos hds (x := .int (-1) t) rfl (wpAny_pure ?_)))))))
  refine wpAny_bind (slicePart_int ?_)
  show wpAny _ _ (if ((-1 : Int) == 0) = true then _ else _) _ _ s
  rw [if_neg (by decide)]
  refine wpAny_bind (slicePart_none (wpAny_bind (slicePart_none (wpAny_bind (wpAny_pure ?_)))))
  show wpAny _ _ (match Builtin.Slice.sliceAdjust none none (-1) (n : Int) with | (lo, hi) => pure (lo, (-1 : Int), Builtin.Slice.slicePlaces lo hi (-1))) _ _ s
  rw [adjust_rev n]
  show wpAny _ _ (pure ((n : Int) - 1, (-1 : Int), Builtin.Slice.slicePlaces ((n : Int) - 1) (-1) (-1))) _ _ s
  rw [places_rev]
  exact wpAny_pure h
theorem getItem_tuple_rev {t sl : Addr} {u : Tok} {items : Array Value} {Q : Value → Shared → Prop} (ht : IsTup s.heap t items) (hs : s.heap.IsSliceOf sl .none .none (.int (-1) u))
    (h : Q (.ref s.heap.objs.size) { s with heap := s.heap.push { cls := .type "tuple", data := .seq items.toList.reverse.toArray } })
    (hsz : items.size ≤ sizeLine) : wpAny (model prog w) A (getItem (.ref t) (.ref sl)) Q E s := by
  have htake : sizeOk (.seq items.toList.reverse.toArray) := by
    show items.toList.reverse.toArray.size ≤ sizeLine
    rw [List.size_toArray, List.length_reverse, Array.length_toList]
    exact hsz
  obtain ⟨os, hos, hcs, hds⟩ := id hs
  have hTs : s.TypeIs (.ref sl) "slice" := ⟨os, hos, hcs⟩
  unfold getItem
  try with_reducible refine wpAny_holding ?_
  first | refine wpAny_bind (wpAny_pure ?_) | skip
  refine wpAny_bind (wpAny_sequenceKey ht.typeIs (by decide) ?_)
  refine wpAny_bind (wpAny_callSpecial?_slot (name := Str.ofString "__getitem__") ht.typeIs PyProof.Rows.slot_tuple_getitem
    (wpAny_call_entry PyProof.Rows.slot_tuple_getitem ht.typeIs PyProof.Rows.entry_tuple_getitem ?_ (PyProof.Rows.args_tuple_getitem _ _)))
  show wpAny _ _ (Builtin.Tuple.tupleItemsOf (.ref t) >>= _) _ _ s
  refine wpAny_bind (PyProof.Rows.tupleItemsOf_ ht ?_)
  refine wpAny_bind (wpAny_typeOf hTs ?_)
  rw [if_pos (by decide)]
  refine wpAny_bind (sliceApplied_rev hs ?_)
  have hno : ¬ ((((items.size : Int) - 1) == 0 && (-1 : Int) == 1 && items.size == items.size) = true) := by
    intro q
    rw [Bool.and_eq_true, Bool.and_eq_true] at q
    exact absurd q.1.2 (by decide)
  show wpAny _ _ (if (((items.size : Int) - 1) == 0 && (-1 : Int) == 1 && items.size == items.size) = true then _ else _) _ _ s
  rw [if_neg hno]
  have ep : ((List.range items.size).filterMap fun (m : Nat) => items[(((items.size : Nat) : Int) - 1 + (m : Int) * -1).toNat]?).toArray = items.toList.reverse.toArray := by
    have q := pick_rev items.toList
    rw [Array.length_toList] at q
    rw [← q]
    simp only [Array.getElem?_toList]
  rw [ep]
  first
    | exact wpAny_bind (m := Builtin.Tuple.tupleExact _) (wpAny_newObj_type (wpAny_pure ⟨_, rfl, wpAny_pure h⟩) htake)
    | exact wpAny_bind (m := Builtin.Tuple.tupleExact _) (wpAny_newObj_type (wpAny_bind (wpAny_pure (wpAny_pure ⟨_, rfl, wpAny_pure h⟩))) htake)
    | exact wpAny_bind (wpAny_bind (m := Builtin.Tuple.tupleExact _) (wpAny_newObj_type (wpAny_pure (wpAny_pure ⟨_, rfl, wpAny_pure h⟩)) htake))
    | exact wpAny_bind (wpAny_bind (m := Builtin.Tuple.tupleExact _) (wpAny_newObj_type (wpAny_pure ⟨_, rfl, wpAny_pure h⟩) htake))
end
def tRev (K : PySem.W.Frag) (te : TE) : TE := fun σ H Q => te σ H fun x H1 => (∃ a xs, x = .ref a ∧ SqL K H1 a xs ∧ ∀ p, H1 p = none → Q (.ref p) (upd H1 p (.lst xs.reverse))) ∨ ∃ a xs, x = .ref a ∧ SqT K H1 a xs ∧ NewT H1 xs.reverse Q
theorem pe_rev {X : Cx} {e : Expr} {te : TE} {k : Nat} {p1 p2 p3 pos : Pos} (he : PE X e te) : PE X (.Subscript e (.Slice none none (some (.UnaryOp .USub (.Constant (.int 1) k p1) p2)) p3) pos) (tRev X.K te) := by
  refine ⟨fun pins s σ H Q I h => ?_⟩
  refine Subscript_ (thn (he.run pins s σ H _ I h) fun v s1 ⟨x, H1, I1, r1, q1⟩ => ?_)
  have hst : PO X (some (.UnaryOp .USub (.Constant (.int 1) k p1) p2)) (tPart (tUn (rU fun i => .int (-i)) (tC (.int 1)))) := po_some (pe_un un_neg pe_int)
  refine wpAny_Slice (thn (po_none.run pins s1 σ H1 (fun o H2 => o = none ∧ H2 = H1) I1 ⟨rfl, rfl⟩) fun vl s2 ⟨l, H2, I2, pl, el, e2⟩ => ?_)
  subst el e2
  refine thn (po_none.run pins s2 σ H2 (fun o H3 => o = none ∧ H3 = H2) I2 ⟨rfl, rfl⟩) fun vu s3 ⟨u, H3, I3, pu, eu, e3⟩ => ?_
  subst eu e3
  refine thn (hst.run pins s3 σ H3 (fun o H4 => o = some (-1) ∧ H4 = H3) I3 ⟨1, rfl, -1, rfl, rfl, rfl⟩) fun vs s4 ⟨o, H4, I4, ps, eo, e4⟩ => ?_
  subst eo e4
  rcases q1 with ⟨a, xs, ex, hx, q⟩ | ⟨a, xs, ex, hx, q⟩
  · subst ex
    cases r1
    have I5 : Inv X pins σ H4 { s4 with heap := s4.heap.push { cls := .type "slice", data := .fields #[vl, vu, vs] } } := I4.kept (t' := s4.toks) fun b ob q => Heap.get?_push_of_some _ q
    obtain ⟨its, r, ht, hz⟩ := I5.list hx
    have hlen := r.length
    show wpAny (model X.prog X.w) X.A (subscriptTail e (.Slice none none (some (.UnaryOp .USub (.Constant (.int 1) k p1) p2)) p3) (.ref a) (.ref s4.heap.objs.size)) (EP X pins σ Q) X.xe { s4 with heap := s4.heap.push { cls := .type "slice", data := .fields #[vl, vu, vs] } }
    refine tail_any (ops := [.ref a, .ref s4.heap.objs.size]) ht.isList.typeIs (PySem.slot_list_getitem.lookup) ?_ (by with_unfolding_all rfl)
    refine wpAny_getItem_list_slice ht.isList (Heap.IsSliceOf.new _ vl vu vs) pl pu ps (by decide) ?_ (by rw [List.size_toArray]; omega)
    rw [PySem.W.krv_pick]
    refine ⟨.ref _, _, I5.laid (t' := s4.toks) (o := .lst xs.reverse) (fun b ob q => Heap.get?_push_of_some _ q) (Nat.le_refl _) ?_, rfl, q _ (I5.hok.fresh (Nat.le_refl _))⟩
    exact ⟨by rw [List.length_reverse]; exact hz, _, 0, r.reverse, Heap.get?_push_size _ rfl⟩
  · subst ex
    cases r1
    cases pl
    cases pu
    cases ps with
    | int i t =>
    have I5 : Inv X pins σ H4 { s4 with heap := s4.heap.push { cls := .type "slice", data := .fields #[.none, .none, .int (-1) t] } } := I4.kept (t' := s4.toks) fun b ob q => Heap.get?_push_of_some _ q
    obtain ⟨its, r, ht, hz⟩ := I5.tuple hx
    have hlen := r.length
    show wpAny (model X.prog X.w) X.A (subscriptTail e (.Slice none none (some (.UnaryOp .USub (.Constant (.int 1) k p1) p2)) p3) (.ref a) (.ref s4.heap.objs.size)) (EP X pins σ Q) X.xe { s4 with heap := s4.heap.push { cls := .type "slice", data := .fields #[.none, .none, .int (-1) t] } }
    refine tail_any (ops := [.ref a, .ref s4.heap.objs.size]) ht.typeIs (PyProof.Rows.slot_tuple_getitem.lookup) ?_ (by with_unfolding_all rfl)
    refine getItem_tuple_rev ht (Heap.IsSliceOf.new _ _ _ _) ?_ (by rw [List.size_toArray]; omega)
    exact newT I5 r.reverse (by rw [List.length_reverse]; exact hz) q
def revD : D → W D
  | .lst xs => ret (.lst xs.reverse)
  | .tup xs => ret (.tup xs.reverse)
  | _ => stuck
section
variable {G : PenK} {X : Cx} {Wx : WX}
theorem e_rev {e : Expr} {g : Env → W D} {k : Nat} {p1 p2 p3 pos : Pos} (he : E G X Wx e g) : E G X Wx (.Subscript e (.Slice none none (some (.UnaryOp .USub (.Constant (.int 1) k p1) p2)) p3) pos) (fun ρ => bnd (g ρ) revD) :=
  weakE (pe_rev he) fun σ H Q ⟨c, ρ, n, P, PX, I, q, hg, hx⟩ => tE.bnd I q hx fun d k v S' H' p g I' hx' r => by
    cases d with
    | lst xs =>
      obtain ⟨a, vs, rfl, r1, z, q1⟩ := r
      exact .inl ⟨a, vs, rfl, r1.sq, fun b hb => (hg.grow g).new p I' hb fun g4 => ⟨b, _, rfl, ⟨.inr rfl, upd_same⟩, by rw [List.length_reverse]; exact z, Reps.grow g4 _ _ (Reps.rev q1)⟩⟩
    | tup xs =>
      obtain ⟨a, vs, rfl, r1, z, q1⟩ := r
      exact .inr ⟨a, vs, rfl, r1.sq, fun b o hb hd => (hg.grow g).new p I' hb fun g4 => ⟨b, _, rfl, .inl ⟨.inr rfl, o, upd_same, hd⟩, by rw [List.length_reverse]; exact z, Reps.grow g4 _ _ (Reps.rev q1)⟩⟩
    | _ => exact p.elim
end
end PL

/-! Dicts of one's own, their keys; sorted texts; repeated lists. -/
namespace PL
open PySem PySem.Spec L2 PyProof.Rows

/-! ### pairs by key -/
def valD (kvs : List (Key × D)) (k : Key) : Option D := (kvs.find? fun kv => decide (kv.1 = k)).map (·.2)
def putD (kvs : List (Key × D)) (k : Key) (v : D) : List (Key × D) :=
  if (kvs.any fun kv => decide (kv.1 = k)) = true then kvs.map (fun kv => if kv.1 = k then (kv.1, v) else kv) else kvs ++ [(k, v)]
def keyD : D → Option Key
  | .int i => some (.inl i)
  | .str s => some (.inr s)
  | _ => none
def keyV : Key → D
  | .inl i => .int i
  | .inr s => .str s
section
variable {K : PySem.W.Frag} {S : Addr → Prop} {H : Hp}
theorem RepK.find : ∀ {kvs : List (Key × D)} {kws : List (Key × V)} (k : Key), RepK K S H kvs kws → (valD kvs k = none ∧ valV kws k = none) ∨ ∃ x v, valD kvs k = some x ∧ valV kws k = some v ∧ Rep K S H x v
  | [], _, k, h => by
    have e : _ = [] := h
    rw [e]
    exact .inl ⟨rfl, rfl⟩
  | (j, x) :: xs, _, k, h => by
    obtain ⟨v, ws, rfl, r, q⟩ := h
    by_cases e : j = k
    · refine .inr ⟨x, v, ?_, ?_, r⟩
      · simp [valD, List.find?_cons, e]
      · simp [valV, List.find?_cons, e]
    · have ih := RepK.find k q
      have e1 : valD ((j, x) :: xs) k = valD xs k := by simp [valD, List.find?_cons, e]
      have e2 : valV ((j, v) :: ws) k = valV ws k := by simp [valV, List.find?_cons, e]
      rw [e1, e2]
      exact ih
theorem RepK.any : ∀ {kvs : List (Key × D)} {kws : List (Key × V)} (k : Key), RepK K S H kvs kws → (kvs.any fun kv => decide (kv.1 = k)) = kws.any fun kv => decide (kv.1 = k)
  | [], _, k, h => by
    have e : _ = [] := h
    rw [e]
    rfl
  | (j, x) :: xs, _, k, h => by
    obtain ⟨v, ws, rfl, r, q⟩ := h
    rw [List.any_cons, List.any_cons, RepK.any k q]
def setK1 {α : Type} (k : Key) (x : α) : List (Key × α) → List (Key × α)
  | [] => []
  | (j, y) :: r => (if j = k then (j, x) else (j, y)) :: setK1 k x r
theorem setK1_eq {α : Type} (k : Key) (x : α) : ∀ l : List (Key × α), l.map (fun kv => if kv.1 = k then (kv.1, x) else kv) = setK1 k x l
  | [] => rfl
  | (j, y) :: r => by
    rw [List.map_cons, setK1_eq k x r]
    rfl
theorem RepK.mapP : ∀ {kvs : List (Key × D)} {kws : List (Key × V)} (k : Key) {x : D} {v : V}, RepK K S H kvs kws → Rep K S H x v → RepK K S H (setK1 k x kvs) (setK1 k v kws)
  | [], _, k, x, v, h, _ => by
    have e : _ = [] := h
    rw [e]
    rfl
  | (j, y) :: xs, _, k, x, v, h, rx => by
    obtain ⟨w, ws, rfl, r, q⟩ := h
    have ih := RepK.mapP k q rx
    unfold setK1
    by_cases e : j = k
    · rw [if_pos e, if_pos e]
      exact ⟨v, _, rfl, rx, ih⟩
    · rw [if_neg e, if_neg e]
      exact ⟨w, _, rfl, r, ih⟩
theorem RepK.app : ∀ {xs ys : List (Key × D)} {vs ws : List (Key × V)}, RepK K S H xs vs → RepK K S H ys ws → RepK K S H (xs ++ ys) (vs ++ ws)
  | [], ys, vs, ws, h, q => by
    have e : vs = [] := h
    rw [e]
    exact q
  | (k, x) :: xs, ys, vs, ws, h, q => by
    obtain ⟨v, us, rfl, r, t⟩ := h
    exact ⟨v, us ++ ws, rfl, r, RepK.app t q⟩
theorem RepK.put {kvs : List (Key × D)} {kws : List (Key × V)} (k : Key) {x : D} {v : V} (h : RepK K S H kvs kws) (r : Rep K S H x v) : RepK K S H (putD kvs k x) (putK kws k v) := by
  unfold putD putK
  rw [RepK.any k h]
  split
  · rw [setK1_eq, setK1_eq]
    exact RepK.mapP k h r
  · exact RepK.app h ⟨v, [], rfl, r, rfl⟩
theorem RepK.keys : ∀ {kvs : List (Key × D)} {kws : List (Key × V)}, RepK K S H kvs kws → (∀ kv ∈ kvs, ∀ s, kv.1 = .inr s → s.length ≤ sizeLine) → Reps K S H (kvs.map fun kv => keyV kv.1) (kws.map fun kv => kV kv.1)
  | [], _, h, _ => by
    have e : _ = [] := h
    rw [e]
    exact Reps.nil
  | (k, x) :: xs, _, h, hz => by
    obtain ⟨v, ws, rfl, r, q⟩ := h
    refine Reps.cons ?_ (RepK.keys q fun kv hk => hz kv (List.mem_cons_of_mem _ hk))
    cases k with
    | inl i => exact rfl
    | inr s => exact ⟨rfl, hz _ List.mem_cons_self s rfl⟩
theorem keyD_rep {d : D} {v : V} {k : Key} (h : keyD d = some k) (r : Rep K S H d v) : v = kV k := by
  cases d with
  | int i => cases h; exact r
  | str s => cases h; exact r.1
  | _ => cases h
end

/-! ### a name takes a new dict; a dict of one's own is changed -/
section
variable {G : PenK} {K : PySem.W.Frag} {c : C} {σ : L2.St} {ρ : Env} {H H' : Hp} {n k : Nt} {S' : Addr → Prop}
theorem SI.setK {i : Nat} {xs : List (Key × D)} {a : Addr} {vs : List (Key × V)} (I : SI G K c σ H ρ n) (e1 : H a = some (.dK vs)) (r : RepK K c.S H xs vs) (y : Young c n a)
    (f : ∀ j sv, i ≠ j → ρ[j]? = some sv → sv.isOwn = true → slot σ j ≠ some (.ref a)) : SI G K c (σ.set i (some (.ref a))) H (ρ.set i (.ownK xs)) n := by
  have key : ∀ j sv, (ρ.set i (.ownK xs))[j]? = some sv → (j = i ∧ sv = .ownK xs ∧ slot (σ.set i (some (.ref a))) j = some (.ref a)) ∨ (i ≠ j ∧ ρ[j]? = some sv ∧ slot (σ.set i (some (.ref a))) j = slot σ j) := fun j sv e => by
    by_cases h : i = j
    · subst h
      have hl : i < ρ.length := by
        have := (List.getElem?_eq_some_iff.mp e).1
        rwa [List.length_set] at this
      rw [List.getElem?_set_self hl] at e
      exact .inl ⟨rfl, (Option.some.inj e).symm, slot_set_same (I.len ▸ hl)⟩
    · rw [List.getElem?_set_ne h] at e
      exact .inr ⟨h, e, slot_set_ne h⟩
  refine ⟨by rw [List.length_set, List.length_set, I.len], fun j sv e => ?_, fun j sv b e ho es => ?_, fun j k sv sv' b hn e e' ho ho' es es' => ?_, I.dom, I.fr, I.pen, I.no, I.tab, I.mu, I.mu0, I.mz⟩
  · rcases key j sv e with ⟨_, rfl, h⟩ | ⟨_, h, h2⟩
    · exact ⟨a, vs, h, e1, r⟩
    · rw [h2]; exact I.slots j sv h
  · rcases key j sv e with ⟨_, rfl, h⟩ | ⟨_, h, h2⟩
    · rw [h] at es; cases es; exact y
    · exact I.own j sv b h ho (h2 ▸ es)
  · rcases key j sv e with ⟨h0, rfl, h⟩ | ⟨_, h, h2⟩
    · rcases key k sv' e' with ⟨h0', rfl, h'⟩ | ⟨_, h', h2'⟩
      · exact hn (h0.trans h0'.symm)
      · rw [h] at es; cases es
        exact f k sv' (h0 ▸ hn) h' ho' (h2' ▸ es')
    · rcases key k sv' e' with ⟨h0', rfl, h'⟩ | ⟨_, h', h2'⟩
      · rw [h'] at es'; cases es'
        exact f j sv (fun q => hn (q ▸ h0'.symm)) h ho (h2 ▸ es)
      · exact I.apart j k sv sv' b hn h h' ho ho' (h2 ▸ es) (h2' ▸ es')
theorem SI.mutK {i : Nat} {xs ys : List (Key × D)} {a : Addr} {vs : List (Key × V)} (I : SI G K c σ H ρ n) (e : ρ[i]? = some (.ownK xs)) (es : slot σ i = some (.ref a)) (r : RepK K c.S H ys vs) :
    SI G K c σ (upd H a (.dK vs)) (ρ.set i (.ownK ys)) n ∧ Grow c.S c.S H (upd H a (.dK vs)) := by
  obtain ⟨y1, y2, y3⟩ := I.own i _ a e rfl es
  have hl : i < ρ.length := (List.getElem?_eq_some_iff.mp e).1
  have g : Grow c.S c.S H (upd H a (.dK vs)) := ⟨fun _ q => q, fun b q => upd_ne fun z => y1 (z ▸ q)⟩
  have key : ∀ j sv, (ρ.set i (.ownK ys))[j]? = some sv → (j = i ∧ sv = .ownK ys) ∨ (i ≠ j ∧ ρ[j]? = some sv) := fun j sv e => by
    by_cases h : i = j
    · subst h
      rw [List.getElem?_set_self hl] at e
      exact .inl ⟨rfl, (Option.some.inj e).symm⟩
    · rw [List.getElem?_set_ne h] at e
      exact .inr ⟨h, e⟩
  refine ⟨⟨by rw [List.length_set, I.len], fun j sv e2 => ?_, fun j sv b e2 ho es2 => ?_, fun j k sv sv' b hn e1 e2 ho ho' es1 es2 => ?_, fun b q => ?_, fun b o e2 hn => ?_, fun p e2 => ?_, I.no, fun q e => ⟨(I.tab q e).1, (I.tab q e).2.grow g (upd_ne fun z => (I.tabN e).2.1 (z ▸ y2))⟩, fun b nd e => ⟨(I.mu b nd e).1.grow g (upd_ne fun z => (by rw [z, y3] at e; cases e)), (I.mu b nd e).2⟩, I.mu0, I.mz⟩, g⟩
  · rcases key j sv e2 with ⟨rfl, rfl⟩ | ⟨hn, h⟩
    · exact ⟨a, vs, es, upd_same, RepK.grow g _ _ r⟩
    · exact (I.slots j sv h).grow g fun b eb ho => upd_ne fun q => I.apart i j _ sv a hn e h rfl ho es (q ▸ eb)
  · rcases key j sv e2 with ⟨rfl, rfl⟩ | ⟨hn, h⟩
    · exact I.own j _ b e rfl es2
    · exact I.own j sv b h ho es2
  · rcases key j sv e1 with ⟨rfl, rfl⟩ | ⟨hn1, h1⟩
    · rcases key k sv' e2 with ⟨rfl, rfl⟩ | ⟨hn2, h2⟩
      · exact hn rfl
      · exact I.apart j k _ sv' b hn e h2 rfl ho' es1 es2
    · rcases key k sv' e2 with ⟨rfl, rfl⟩ | ⟨hn2, h2⟩
      · exact I.apart j k sv _ b hn h1 e ho rfl es1 es2
      · exact I.apart j k sv sv' b hn h1 h2 ho ho' es1 es2
  · rw [g.eq b q]; exact I.dom b q
  · have q := I.fr b o e2 hn
    rw [upd_ne fun z => by rw [z, y2] at e2; cases e2]
    exact q
  · obtain ⟨h1, h2, h3, h4, h5⟩ := I.pen p e2
    exact ⟨G.dep h1 (upd_ne fun z => h4 (z ▸ y2)) (upd_ne fun z => h5 (z ▸ y2)), h2, h3, h4, h5⟩
/-- a new object, at nobody's hands -/
theorem SI.bare {a : Addr} {o : HO} (I : SI G K c σ H ρ n) (hp : H a = none) : SI G K c σ (upd H a o) ρ n ∧ Grow c.S c.S H (upd H a o) ∧ FreshAt c n σ ρ a := by
  have ne : ∀ b, H b ≠ none → b ≠ a := fun b q e => q (e ▸ hp)
  have g : Grow c.S c.S H (upd H a o) := ⟨fun _ q => q, fun b q => upd_ne (ne b (I.dom b q))⟩
  refine ⟨⟨I.len, fun i sv e => (I.slots i sv e).grow g fun b eb ho => upd_ne (ne b (I.own_there ⟨i, sv, e, ho, eb⟩)), I.own, I.apart, fun b q => by rw [upd_ne (ne b (I.dom b q))]; exact I.dom b q,
    fun b u e q => by
      have := I.fr b u e q
      rw [upd_ne (ne b (by rw [this]; exact fun z => nomatch z))]
      exact this, fun q e => by
      obtain ⟨h1, h2, h3, h4, h5⟩ := I.pen q e
      obtain ⟨k1, k2⟩ := G.there h1
      exact ⟨G.dep h1 (upd_ne (ne _ k1)) (upd_ne (ne _ k2)), h2, h3, h4, h5⟩, I.no, fun q e => ⟨(I.tab q e).1, (I.tab q e).2.grow g (upd_ne (ne _ (I.tabN e).2.2))⟩, fun b nd e => ⟨(I.mu b nd e).1.grow g (upd_ne (ne _ (I.mu b nd e).1.there)), (I.mu b nd e).2⟩, I.mu0, I.mz⟩, g, ⟨⟨fun q => I.dom a q hp, I.freeOld hp, I.freeM hp⟩, fun i sv e ho es => I.own_there ⟨i, sv, e, ho, es⟩ hp⟩⟩
end

/-! ### expressions that give a new dict -/
section
variable (G : PenK) (X : Cx) (Wx : WX)
def GlK (c : C) (σ : L2.St) (ρ : Env) (H : Hp) (P : List (Key × D) → Nt → Prop) (Q : VK) : Prop :=
  ∀ xs k a vs S' H', P xs k → Grow c.S S' H H' → SI G X.K (c.to S') σ H' ρ k → H' a = some (.dK vs) → RepK X.K S' H' xs vs → FreshAt (c.to S') k σ ρ a → Q (.ref a) H'
def tKd (g : Env → W (List (Key × D))) : TE := fun σ H Q => ∃ c ρ n P PX, SI G X.K c σ H ρ n ∧ g ρ n P PX ∧ GlK G X c σ ρ H P Q ∧ OKx G X Wx c σ ρ H PX
def EK (e : Expr) (g : Env → W (List (Key × D))) : Prop := PE X e (tKd G X Wx g)
end
section
variable {G : PenK} {X : Cx} {Wx : WX} {γ : Type} {En : Enz γ} {ρ : Env} {rest : List Stmt} {m : W γ}
theorem EK.e {e : Expr} {g : Env → W (List (Key × D))} (h : EK G X Wx e g) : E G X Wx e (fun ρ => bnd (g ρ) fun xs => ret (.dic xs)) :=
  weakE h fun σ H Q ⟨c, ρ, n, P, PX, I, q, hg, hx⟩ => ⟨c, ρ, n, fun xs k => P (.dic xs) k, PX, I, q, fun xs k a vs S' H' p g I' e r f => by
    obtain ⟨I2, g2⟩ := I'.adopt f (by rw [e]; exact fun z => nomatch z)
    exact hg (.dic xs) k (.ref a) _ H' p (g.trans g2) I2 ⟨a, vs, rfl, ⟨.inr rfl, .inl e⟩, RepK.grow g2 _ _ r⟩, hx⟩
theorem k_new {pos : Pos} : EK G X Wx (.Dict [] [] pos) (fun _ => ret []) :=
  weakE pe_dnewK fun σ H Q ⟨c, ρ, n, P, PX, I, q, hg, hx⟩ p hp => by
    obtain ⟨I2, g2, f⟩ := SI.bare (o := .dK []) I hp
    exact hg [] n p [] c.S _ q g2 I2 upd_same rfl f
/-- x = a new dict of one's own -/
theorem s_ownK {x : Str} {px pos : Pos} {e : Expr} {g : Env → W (List (Key × D))} (i : Nat) (h : EK G X Wx e g) (hN : X.N.Nodup) (hi : X.N[i]? = some x := by rfl) (hx : Loc X.env.scope x := by first | exact Or.inl rfl | exact Or.inr rfl) (hf : X.fn x = true ∨ X.env.scope.names.lookup x = some .local := by first | exact .inl rfl | exact .inr rfl)
    (hs : swapsWithSole [.Name x px] e pos.line X.env = pure false := by rfl) (hw : swappedStores [.Name x px] e X.env = pure none := by rfl) : St1 G X Wx (.Assign [.Name x px] e pos) (fun ρ => bnd (g ρ) fun xs => ret (.nx (ρ.set i (.ownK xs)))) :=
  weakS (ps_asg h (pg_name hN hi hx hf) hs hw) fun Dn σ H ⟨c, ρ, n, P, PX, I, q, hg, hx⟩ => ⟨c, ρ, n, fun xs k => P (.nx (ρ.set i (.ownK xs))) k, PX, I, q, fun xs k a vs S' H' p g I' e r f => hg.1 _ k _ S' H' p g (I'.setK e r f.1 fun j sv _ h1 h2 => f.2 j sv h1 h2), hx.x⟩
theorem ownK_inj {α : Type} {f : α → List (Key × D)} {i : Nat} (hi : i < ρ.length) (inj : ∀ a b, f a = f b → a = b) (a b : α) (h : ρ.set i (.ownK (f a)) = ρ.set i (.ownK (f b))) : a = b := by
  have q := congrArg (·[i]?) h
  simp only [List.getElem?_set_self hi] at q
  exact inj a b (SV.ownK.inj (Option.some.inj q))
theorem sg_dic {x : Str} {px pos : Pos} {e : Expr} {g : Env → W (List (Key × D))} {m0 : W (List (Key × D))} {k : List (Key × D) → W γ} {ρ' : List (Key × D) → Env} (i L : Nat) (h : EK G X Wx e g) (hN : X.N.Nodup) (hg : g ρ = m0) (hL : ρ.length = L) (hiL : i < L) (hρ : ∀ a, ρ.set i (.ownK a) = ρ' a) (hr : ∀ a, SG G X Wx rest (ρ' a) En (k a)) (hi : X.N[i]? = some x := by rfl) (hx : Loc X.env.scope x := by first | exact Or.inl rfl | exact Or.inr rfl) (hf : X.fn x = true ∨ X.env.scope.names.lookup x = some .local := by first | exact .inl rfl | exact .inr rfl)
    (hs : swapsWithSole [.Name x px] e pos.line X.env = pure false := by rfl) (hw : swappedStores [.Name x px] e X.env = pure none := by rfl) : SG G X Wx (.Assign [.Name x px] e pos :: rest) ρ En (bnd m0 k) :=
  sg_stmt (s_ownK i h hN hi hx hf hs hw) (by rw [hg]) (ownK_inj (f := fun a => a) (lt_lit hL hiL) fun _ _ h => h) fun a => by rw [hρ]; exact hr a
theorem sg_dicP {x : Str} {px pos : Pos} {e : Expr} {g : Env → W (List (Key × D))} {d : List (Key × D)} {ρ' : Env} (i : Nat) (h : EK G X Wx e g) (hN : X.N.Nodup) (hg : g ρ = ret d) (hρ : ρ.set i (.ownK d) = ρ') (hr : SG G X Wx rest ρ' En m) (hi : X.N[i]? = some x := by rfl) (hx : Loc X.env.scope x := by first | exact Or.inl rfl | exact Or.inr rfl) (hf : X.fn x = true ∨ X.env.scope.names.lookup x = some .local := by first | exact .inl rfl | exact .inr rfl)
    (hs : swapsWithSole [.Name x px] e pos.line X.env = pure false := by rfl) (hw : swappedStores [.Name x px] e X.env = pure none := by rfl) : SG G X Wx (.Assign [.Name x px] e pos :: rest) ρ En m :=
  sg_stmt (m0 := ret ()) (e := fun _ => ρ.set i (.ownK d)) (k := fun _ => m) (s_ownK i h hN hi hx hf hs hw) (by rw [hg]; rfl) (fun _ _ _ => rfl) fun _ => by rw [hρ]; exact hr
/-- d[k] = v -/
def putW (kvs : List (Key × D)) (k v : D) : W (List (Key × D)) := match keyD k with
  | some kk => grd (kvs.length < sizeLine) (ret (putD kvs kk v))
  | none => stuck
def ownKAt (ρ : Env) (i : Nat) (f : List (Key × D) → W Out) : W Out := match ρ[i]? with
  | some (.ownK xs) => f xs
  | _ => stuck
theorem ownKAt_inv {ρ : Env} {i : Nat} {n : Nt} {f : List (Key × D) → W Out} {P : Out → Nt → Prop} {PX : Exc → Nt → Prop} (h : ownKAt ρ i f n P PX) : ∃ xs, ρ[i]? = some (.ownK xs) ∧ f xs n P PX := by
  unfold ownKAt at h
  cases e : ρ[i]? with
  | none => rw [e] at h; exact False.elim h
  | some sv =>
    rw [e] at h
    cases sv with
    | ownK xs => exact ⟨xs, rfl, h⟩
    | _ => exact False.elim h
theorem s_put {x : Str} {px ps pos : Pos} {k e : Expr} {gk ge : Env → W D} (i : Nat) (hu : X.A.units + 1 < cLine) (hk : E G X Wx k gk) (he : E G X Wx e ge) (hN : X.N[i]? = some x := by rfl) (hv : Vis X.env.scope x := by first | exact Or.inl rfl | exact Or.inr (Or.inl rfl) | exact Or.inr (Or.inr rfl)) (hd : (x == ("__debug__" : Str)) = false := by decide)
    (hcd : (x == ("__classdict__" : Str)) = false := by decide) (hs : swapsWith e (some (.Subscript (.Name x px) k ps)) pos.line X.env = pure false := by rfl) :
    St1 G X Wx (.Assign [.Subscript (.Name x px) k ps] e pos) (fun ρ => ownKAt ρ i fun xs => bnd (bnd (ge ρ) fun v => bnd (gk ρ) fun k => putW xs k v) fun ys => ret (.nx (ρ.set i (.ownK ys)))) :=
  weakS (ps_dput hu (pe_var hN hv hd hcd) hk he hs) fun Dn σ H ⟨c, ρ, n, P, PX, I, q, hg, hx⟩ => by
    obtain ⟨xs, e1, q⟩ := ownKAt_inv q
    obtain ⟨a, vs, e2, e3, r⟩ := I.slots i _ e1
    refine tE.bnd (α := Out) (P := P) (f := fun v => bnd (gk ρ) fun k => bnd (putW xs k v) fun ys => ret (Out.nx (ρ.set i (.ownK ys)))) I q hx.x fun d k0 v S' H' p g I' hx' r' => ⟨.ref a, slot_some e2, tE.bnd (α := Out) (P := P) (f := fun k => bnd (putW xs k d) fun ys => ret (Out.nx (ρ.set i (.ownK ys)))) I' p hx' fun kd k1 kv S2 H2 p2 g2 I2 hx2 rk => ?_⟩
    obtain ⟨a', vs', e4, e5, r2⟩ := I2.slots i _ e1
    rw [e2] at e4
    cases e4
    have p2 : bnd (putW xs kd d) (fun ys => ret (Out.nx (ρ.set i (.ownK ys)))) k1 P PX := p2
    unfold putW at p2
    cases ek : keyD kd with
    | none => rw [ek] at p2; exact False.elim p2
    | some kk =>
      rw [ek] at p2
      obtain ⟨z, p2⟩ := p2
      obtain rfl := keyD_rep ek rk
      obtain ⟨I3, g3⟩ := I2.mutK e1 e2 (ys := putD xs kk d) (vs := putK vs' kk v) (RepK.put kk r2 (Rep.grow g2 _ _ r'))
      exact ⟨a, _, rfl, DPut.k e5 (by rw [r2.len]; exact z), hg.1 _ k1 σ _ _ p2 ((g.trans g2).trans g3) I3⟩
theorem sg_put {x : Str} {px ps pos : Pos} {k e : Expr} {gk ge : Env → W D} {xs : List (Key × D)} {m0 : W (List (Key × D))} {kk : List (Key × D) → W γ} {ρ' : List (Key × D) → Env} (i L : Nat) (hu : X.A.units + 1 < cLine) (hk : E G X Wx k gk) (he : E G X Wx e ge) (hx : ρ[i]? = some (.ownK xs)) (hg : (bnd (ge ρ) fun v => bnd (gk ρ) fun k => putW xs k v) = m0) (hL : ρ.length = L) (hi : i < L) (hρ : ∀ a, ρ.set i (.ownK a) = ρ' a) (hr : ∀ a, SG G X Wx rest (ρ' a) En (kk a))
    (hN : X.N[i]? = some x := by rfl) (hv : Vis X.env.scope x := by first | exact Or.inl rfl | exact Or.inr (Or.inl rfl) | exact Or.inr (Or.inr rfl)) (hd : (x == ("__debug__" : Str)) = false := by decide)
    (hcd : (x == ("__classdict__" : Str)) = false := by decide) (hs : swapsWith e (some (.Subscript (.Name x px) k ps)) pos.line X.env = pure false := by rfl) :
    SG G X Wx (.Assign [.Subscript (.Name x px) k ps] e pos :: rest) ρ En (bnd m0 kk) :=
  sg_stmt (s_put i hu hk he hN hv hd hcd hs) (by
    unfold ownKAt
    rw [hx, ← hg]) (ownK_inj (f := fun a => a) (lt_lit hL hi) fun _ _ h => h) fun a => by rw [hρ]; exact hr a
/-! ### reading dicts -/
def optW {α : Type} : Option α → W α
  | some a => ret a
  | none => stuck
theorem optW_inv {α : Type} {o : Option α} {n : Nt} {P : α → Nt → Prop} {PX : Exc → Nt → Prop} (h : optW o n P PX) : ∃ a, o = some a ∧ P a n := by
  cases o with
  | some a => exact ⟨a, rfl, h⟩
  | none => exact False.elim h
def dgetD (d k : D) : W D := match d with
  | .dic kvs => bnd (optW (keyD k)) fun kk => optW (valD kvs kk)
  | _ => stuck
theorem e_dget {o i : Expr} {pos : Pos} {go gi : Env → W D} (hu : X.A.units + 1 < cLine) (ho : E G X Wx o go) (hi : E G X Wx i gi) (hs : NoSl i := by intro _ _; rfl) : E G X Wx (.Subscript o i pos) (fun ρ => bnd (go ρ) fun x => bnd (gi ρ) fun y => dgetD x y) :=
  two_parts (r := fun x y H Q => ∃ a v, x = .ref a ∧ DGet H a y (some v) ∧ Q v H) (by
    intro c σ ρ H n P PX d e v w Q I rd re h hg hx
    cases d with
    | dic kvs =>
      obtain ⟨a, kws, rfl, ⟨_, r1⟩, r2⟩ := rd
      obtain ⟨kk, ek, h⟩ := optW_inv (show optW (keyD e) n (fun kk k => optW (valD kvs kk) k P PX) PX from h)
      obtain ⟨x, ex, h⟩ := optW_inv h
      obtain rfl := keyD_rep ek re
      rcases RepK.find kk r2 with ⟨z, _⟩ | ⟨y, v, z1, z2, r3⟩
      · rw [z] at ex; cases ex
      · rw [z1] at ex
        cases ex
        exact ⟨a, v, rfl, z2 ▸ .inl ⟨kws, kk, r1, rfl, rfl⟩, hg.at h I r3⟩
    | _ => exact False.elim h) ho hi (pe_dget hu ho hi hs)
/-- list(d) -/
def keysD : D → W (List D)
  | .dic kvs => grd (kvs.length ≤ sizeLine ∧ ∀ kv ∈ kvs, ∀ s, kv.1 = .inr s → s.length ≤ sizeLine) (ret (kvs.map fun kv => keyV kv.1))
  | _ => stuck
theorem o_listK {p pos : Pos} {e : Expr} {g : Env → W D} (hc : X.calm = true) (hm : X.mg "list" = none) (h : E G X Wx e g) (hg : Gl X "list" := by rfl) (he : starEach [e] X.env = (false, eval e X.env) :: starEach [] X.env := by rfl) :
    EO G X Wx (.Call (.Name "list" p) [e] [] pos) (fun ρ => bnd (g ρ) keysD) :=
  o_t1 hm PyProof.Rows.boot_list (call_listD hc) (r := fun x H Q => ∃ (a : Addr) (kvs : List (Key × V)), x = .ref a ∧ Rd H a (.dK kvs) ∧ ∀ p, H p = none → Q (.ref p) (upd H p (.lst (kvs.map fun kv => kV kv.1)))) (by
    intro c σ ρ H n P PX d v Q I r q hg hx
    cases d with
    | dic kvs =>
      obtain ⟨a, kws, rfl, ⟨_, r1⟩, r2⟩ := r
      obtain ⟨⟨z1, z2⟩, q⟩ := q
      exact ⟨a, kws, rfl, r1, fun b hb => hg.new q I hb (by rw [List.length_map]; exact z1) (RepK.keys r2 z2)⟩
    | _ => exact False.elim q) (fun x H Q ⟨a, kvs, e, r, q⟩ => ⟨a, kvs, by rw [e], r, q⟩) h hg (by decide) (by decide) he (by rfl)
/-! ### sorted texts -/
def leS (a b : Str) : Bool := !ltCps b.cps.toList a.cps.toList
def sortT (xs : List Str) : List Str := xs.mergeSort leS
theorem ltCps_iff : ∀ a b : List Nat, ltCps a b = true ↔ a < b
  | [], [] => by simp [ltCps]
  | [], _ :: _ => by simp [ltCps]
  | _ :: _, [] => by simp [ltCps]
  | x :: xs, y :: ys => by
    have ih := ltCps_iff xs ys
    rw [List.cons_lt_cons_iff]
    unfold ltCps
    simp only [Bool.or_eq_true, Bool.and_eq_true, decide_eq_true_eq, beq_iff_eq, ih]
theorem leS_iff (a b : Str) : leS a b = true ↔ ¬ b.cps.toList < a.cps.toList := by
  unfold leS
  rw [Bool.not_eq_true', ← Bool.not_eq_true, ltCps_iff]
theorem leS_trans (a b c : Str) (h1 : leS a b = true) (h2 : leS b c = true) : leS a c = true := by
  rw [leS_iff] at *
  exact List.le_trans (α := Nat) h1 h2
theorem leS_total (a b : Str) : (leS a b || leS b a) = true := by
  rw [Bool.or_eq_true, leS_iff, leS_iff]
  exact List.le_total (α := Nat) a.cps.toList b.cps.toList
theorem str_ext {a b : Str} (h : a.cps.toList = b.cps.toList) : a = b := by
  cases a; cases b
  congr 1
  exact Array.toList_inj.mp h
theorem leS_anti (a b : Str) (h1 : leS a b = true) (h2 : leS b a = true) : a = b := by
  rw [leS_iff] at *
  exact str_ext (List.le_antisymm (α := Nat) h1 h2)
theorem risingS_pw : ∀ (l : List Str) (p : Str), risingS p l = true → (p :: l).Pairwise fun a b => leS a b = true
  | [], p, _ => List.pairwise_cons.mpr ⟨fun _ h => (nomatch h), List.Pairwise.nil⟩
  | x :: r, p, h => by
    have h : (!ltCps x.cps.toList p.cps.toList && risingS x r) = true := h
    rw [Bool.and_eq_true] at h
    have ih := risingS_pw r x h.2
    refine List.pairwise_cons.mpr ⟨fun y hy => ?_, ih⟩
    rcases List.mem_cons.mp hy with rfl | hy
    · exact h.1
    · exact leS_trans p x y h.1 ((List.pairwise_cons.mp ih).1 y hy)
theorem sortedS_pw (l : List Str) (h : sortedS l = true) : l.Pairwise fun a b => leS a b = true := by
  cases l with
  | nil => exact List.Pairwise.nil
  | cons x r => exact risingS_pw r x h
theorem sortT_unique {xs ys : List Str} (hp : ys.Perm xs) (hs : sortedS ys = true) : ys = sortT xs := by
  refine (hp.trans (List.mergeSort_perm xs leS).symm).eq_of_pairwise (fun a b _ _ h1 h2 => leS_anti a b h1 h2) (sortedS_pw ys hs) ?_
  exact List.pairwise_mergeSort leS_trans leS_total xs
/-- sorted(e) of texts -/
def sortW : D → W (List D)
  | .lst xs => match txts xs with
    | some ss => grd (ss.length < 64) (ret ((sortT ss).map .str))
    | none => stuck
  | _ => stuck
theorem txts_len {K : PySem.W.Frag} {S : Addr → Prop} {H : Hp} : ∀ {xs : List D} {ss : List Str} {vs : List V}, txts xs = some ss → Reps K S H xs vs → ss.length = xs.length ∧ ∀ s ∈ ss, s.length ≤ sizeLine
  | [], _, _, e, h => by cases e; exact ⟨rfl, fun _ h => nomatch h⟩
  | x :: xs, _, _, e, h => by
    obtain ⟨v, ws, rfl, r, q⟩ := h
    cases x with
    | str s =>
      have e : (txts xs).map (s :: ·) = some _ := e
      cases e1 : txts xs with
      | none => rw [e1] at e; cases e
      | some ts =>
        rw [e1] at e
        cases e
        obtain ⟨h1, h2⟩ := txts_len e1 q
        refine ⟨by rw [List.length_cons, List.length_cons, h1], fun t ht => ?_⟩
        rcases List.mem_cons.mp ht with rfl | ht
        · exact r.2
        · exact h2 t ht
    | _ => cases e
theorem reps_strs {K : PySem.W.Frag} {S : Addr → Prop} {H : Hp} : ∀ {ss : List Str}, (∀ s ∈ ss, s.length ≤ sizeLine) → Reps K S H (ss.map .str) (ss.map .str)
  | [], _ => Reps.nil
  | s :: ss, h => Reps.cons ⟨rfl, h s List.mem_cons_self⟩ (reps_strs fun t ht => h t (List.mem_cons_of_mem _ ht))
theorem o_b1 {x : Str} {p pos : Pos} {id : String} {e : Expr} {r : V → Hp → VK → Prop} {r' : List V → Hp → VK → Prop} {g : Env → W D} {f : D → W (List D)} (hm : X.mg x = none) (hv : bootBuiltins x = some (.builtin id)) (o : CallR X (.builtin id) r') (v : V1O G X Wx f r) (hr : ∀ x H Q, r x H Q → r' [x] H Q) (h : E G X Wx e g)
    (hg : Gl X x) (hn : x ≠ "__name__") (hdb : (x == ("__debug__" : Str)) = false) (he : starEach [e] X.env = (false, eval e X.env) :: starEach [] X.env) (hpl : (backTo pos (starEach [] X.env)).any (·.1) = false) : EO G X Wx (.Call (.Name x p) [e] [] pos) (fun ρ => bnd (g ρ) f) :=
  weakE (pe_callB o hg hm hv (a_cons h a_nil he) hn hdb he hpl) fun σ H Q ⟨c, ρ, n, P, PX, I, q, hg, hx⟩ => tAr.bnd (f := fun ds => match ds with | [d] => f d | _ => stuck) I q hx fun ds k vs S' H' p g I' hx' rs => by
    cases ds with
    | nil => exact False.elim p
    | cons d ds =>
      cases ds with
      | cons _ _ => exact False.elim p
      | nil =>
        obtain ⟨u, rfl, r1⟩ := rs.one_inv
        exact hr u H' Q (v _ σ ρ H' k P PX d u Q I' r1 p (hg.grow g) hx')
theorem o_sortS {p pos : Pos} {e : Expr} {g : Env → W D} (hm : X.mg "sorted" = none) (h : E G X Wx e g) (hg : Gl X "sorted" := by rfl) (he : starEach [e] X.env = (false, eval e X.env) :: starEach [] X.env := by rfl) :
    EO G X Wx (.Call (.Name "sorted" p) [e] [] pos) (fun ρ => bnd (g ρ) sortW) :=
  o_b1 hm (by decide +kernel) cr_sortedS (r := fun x H Q => ∃ (a : Addr) (xs : List Str), x = .ref a ∧ SqL X.K H a (xs.map V.str) ∧ xs.length < 64 ∧ ∀ (ys : List Str) (p : Addr), ys.Perm xs → sortedS ys = true → H p = none → Q (.ref p) (upd H p (.lst (ys.map V.str)))) (by
    intro c σ ρ H n P PX d v Q I r q hg hx
    cases d with
    | lst xs =>
      obtain ⟨a, vs, rfl, r1, z, q1⟩ := r
      have q : (match txts xs with | some ss => grd (ss.length < 64) (ret ((sortT ss).map .str)) | none => stuck : W (List D)) n P PX := q
      cases e1 : txts xs with
      | none => rw [e1] at q; exact False.elim q
      | some ss =>
        rw [e1] at q
        obtain ⟨h64, q⟩ := q
        obtain rfl := txts_vals e1 q1
        obtain ⟨hl, hz⟩ := txts_len e1 q1
        refine ⟨a, ss, rfl, r1.sq, h64, fun ys b hp hs hb => ?_⟩
        obtain rfl := sortT_unique hp hs
        have hz2 : ∀ s ∈ sortT ss, s.length ≤ sizeLine := fun s hs => hz s (hp.mem_iff.mp hs)
        have hlen : ((sortT ss).map D.str).length ≤ sizeLine := by rw [List.length_map, hp.length_eq, hl]; exact z
        exact hg.new q I hb hlen (reps_strs hz2)
    | _ => exact False.elim q) (fun x H Q ⟨a, xs, e, h⟩ => ⟨a, xs, by rw [e], h⟩) h hg (by decide) (by decide) he (by rfl)
/-! ### xs * k -/
def repL (xs : List D) (k : Int) : List D := (List.replicate k.toNat xs).flatten
def repD : D → D → W D
  | .lst xs, .int k => grd (-(2 ^ 63) ≤ k ∧ k < 2 ^ 63 ∧ xs.length * k.toNat ≤ sizeLine) (ret (.lst (repL xs k)))
  | .tup xs, .int k => grd (xs ≠ [] ∧ 2 ≤ k ∧ k ≤ 1000 ∧ xs.length ≤ 1000) (ret (.tup (repL xs k)))
  | _, _ => stuck
theorem repL_len (xs : List D) (k : Int) : (repL xs k).length = xs.length * k.toNat := by
  unfold repL
  rw [List.length_flatten, List.map_replicate, List.sum_replicate_nat, Nat.mul_comm]
theorem Reps.rep {K : PySem.W.Frag} {S : Addr → Prop} {H : Hp} {xs : List D} {vs : List V} (h : Reps K S H xs vs) : ∀ n : Nat, Reps K S H (List.replicate n xs).flatten (List.replicate n vs).flatten
  | 0 => Reps.nil
  | n + 1 => by
    rw [List.replicate_succ, List.replicate_succ, List.flatten_cons, List.flatten_cons]
    exact Reps.app h (Reps.rep h n)
def rRepZ (K : PySem.W.Frag) : R2 := fun x y H Q => ∃ l k xs, x = .ref l ∧ y = .int k ∧ SqT K H l xs ∧ xs ≠ [] ∧ 2 ≤ k ∧ k ≤ 1000 ∧ xs.length ≤ 1000 ∧ NewT H (List.replicate k.toNat xs).flatten Q
theorem op_repZ : OpR X (binaryOp .Mult) (rRepZ X.K) := by
  intro pins s σ H x y v u Q I rx ry h
  obtain ⟨l, k, xs, rfl, rfl, hT, hne, h1, h2, hz, q⟩ := h
  cases rx
  obtain ⟨t, rfl⟩ := ry
  obtain ⟨its, r, ⟨⟨cls, dd, data, sl⟩, ho, hc, n, hd⟩, hs⟩ := I.tuple hT
  simp only at hc hd
  subst hc hd
  have hle : its.length = xs.length := r.length.symm
  have hn : its ≠ [] := fun e => hne (by
    rw [e] at hle
    exact List.eq_nil_of_length_eq_zero hle.symm)
  have hi : its.toArray.isEmpty = false := by
    cases its with
    | nil => exact absurd rfl hn
    | cons a b => rfl
  have hsz0 : its.toArray.size = xs.length := by rw [List.size_toArray, hle]
  have hm : ((its.toArray.size : Nat) : Int) * k ≤ 1000000 := by
    rw [hsz0]
    have a1 : ((xs.length : Nat) : Int) * k ≤ 1000 * k := Int.mul_le_mul_of_nonneg_right (by omega) (by omega)
    omega
  have flen : (List.replicate k.toNat its).flatten.length ≤ sizeLine := by
    rw [PyProof.Rows.lm_len_rep_flat, hle, sizeLine_eq]
    have a1 : k.toNat * xs.length ≤ 1000 * 1000 := Nat.mul_le_mul (by omega) hz
    omega
  have c0 : (decide (k < -(2 ^ 63)) || decide (k ≥ 2 ^ 63)) = false := by
    rw [decide_eq_false (by omega), decide_eq_false (by omega)] <;> rfl
  have c1 : (its.toArray.isEmpty || k == 1) = false := by
    rw [hi, Bool.false_or]
    exact beq_eq_false_iff_ne.mpr (by omega)
  have c2 : (decide (k ≤ 0) || its.toArray.isEmpty) = false := by
    rw [hi, Bool.or_false]
    exact decide_eq_false (by omega)
  have c4 : Builtin.Tuple.tupleTooMany (((its.toArray.size : Nat) : Int) * k) = false := by
    unfold Builtin.Tuple.tupleTooMany
    rw [sizeLine_eq]
    exact decide_eq_false (by omega)
  refine wpAny_binaryOp_repeat_ref (T := "tuple") (U := "int") (by decide) ⟨_, ho, rfl⟩ (fun s' => typeIs_int s' k t) noFill_tuple_mul F.fills_int_mul F.slot_int_rmul repeat_tuple F.slot_int_index.lookup
    (call_meets F.slot_int_rmul (typeIs_int s k t) F.entry_int_rmul (F.args_int_rmul_2 _ _) (int_rmul_tuple k t l its.toArray n dd sl)
      ⟨ho, rfl, ⟨_, ho, rfl⟩, call_meets F.slot_tuple_mul ⟨_, ho, rfl⟩ F.entry_tuple_mul (F.args_tuple_mul_2 _ _) (tuple_mulW l its.toArray n dd sl k t c0 c1 c2 (by omega) c4 (by rw [size_rep, List.size_toArray]; exact flen)) ⟨ho, ?_⟩⟩)
  rw [size_rep]
  exact newT I (r.rep k.toNat) (by rw [PyProof.Rows.lm_len_rep_flat, sizeLine_eq]; have a1 : k.toNat * xs.length ≤ 1000 * 1000 := Nat.mul_le_mul (by omega) hz; omega) q
theorem e_rep {a b : Expr} {pos : Pos} {ga gb : Env → W D} (ha : E G X Wx a ga) (hb : E G X Wx b gb) : E G X Wx (.BinOp a .Mult b pos) (fun ρ => bnd (ga ρ) fun x => bnd (gb ρ) fun y => repD x y) :=
  e_op (op_rep.or op_repZ) (by
    intro c σ ρ H n P PX d e v w Q I rd re h hg hx
    cases d with
    | lst xs =>
      cases e with
      | int k =>
        cases re
        obtain ⟨⟨z1, z2, z3⟩, h⟩ := h
        obtain ⟨a, vs, rfl, r1, z, q1⟩ := rd
        exact .inl ⟨a, k, vs, rfl, rfl, r1.2, z1, z2, by rw [q1.len]; exact z3, fun p hp => hg.new h I hp fun g => ⟨p, _, rfl, ⟨.inr rfl, upd_same⟩, by rw [repL_len]; exact z3, Reps.grow g _ _ (q1.rep _)⟩⟩
      | _ => exact False.elim h
    | tup xs =>
      cases e with
      | int k =>
        cases re
        obtain ⟨⟨z0, z1, z2, z3⟩, h⟩ := h
        obtain ⟨a, vs, rfl, r1, z, q1⟩ := rd
        have hl := q1.len
        refine .inr ⟨a, k, vs, rfl, rfl, r1.sq, fun e => z0 (List.eq_nil_of_length_eq_zero (by rw [← hl, e]; rfl)), z1, z2, by rw [hl]; exact z3, fun p o hp hd => hg.new h I hp fun g => ⟨p, _, rfl, .inl ⟨.inr rfl, o, upd_same, hd⟩, ?_, Reps.grow g _ _ (q1.rep _)⟩⟩
        rw [repL_len, sizeLine_eq]
        have : k.toNat ≤ 1000 := by omega
        calc xs.length * k.toNat ≤ 1000 * 1000 := Nat.mul_le_mul z3 this
          _ ≤ _ := by decide
      | _ => exact False.elim h
    | _ => cases e <;> exact False.elim h) ha hb
/-- xs.insert(0, e) -/
theorem s_ins0 {x : Str} {px pa pc pos p0 : Pos} {j0 : Nat} {e : Expr} {g : Env → W D} (i : Nat) (h : E G X Wx e g) (hN : X.N[i]? = some x := by rfl) (hv : Vis X.env.scope x := by first | exact Or.inl rfl | exact Or.inr (Or.inl rfl) | exact Or.inr (Or.inr rfl)) (hd : (x == ("__debug__" : Str)) = false := by decide)
    (hcd : (x == ("__classdict__" : Str)) = false := by decide) (hst : starEach [e] X.env = (false, eval e X.env) :: starEach [] X.env := by rfl) (hst0 : starEach [.Constant (.int 0) j0 p0, e] X.env = (false, eval (.Constant (.int 0) j0 p0) X.env) :: starEach [e] X.env := by rfl)
    (hbase : attributeBase (.Name x px) "insert" X.env (eval (.Name x px) X.env) = eval (.Name x px) X.env := by rfl)
    (hfew : ((backTo pc (starEach [.Constant (.int 0) j0 p0, e] X.env)).all (fun x => !x.1) && (backToKw pc (keywordEach [] X.env)).all (fun x => x.1.isSome)
      && decide (([.Constant (.int 0) j0 p0, e] : List Expr).length + ([] : List Keyword).length + (if ([] : List Keyword).isEmpty then 0 else 1) < 30)) = true := by rfl)
    (hline : (pa.endLine == pc.line) = true := by rfl) (hplain : (backTo pc (starEach [e] X.env)).any (·.1) = false := by rfl) (hs : swapsWith (.Call (.Attribute (.Name x px) "insert" pa) [.Constant (.int 0) j0 p0, e] [] pc) none pos.line X.env = pure false := by rfl) :
    St1 G X Wx (.Expr (.Call (.Attribute (.Name x px) "insert" pa) [.Constant (.int 0) j0 p0, e] [] pc) pos) (fun ρ => ownAt ρ i fun xs => bnd (g ρ) fun d => grd (xs.length < sizeLine) (ret (.nx (ρ.set i (.own (d :: xs)))))) :=
  weakS (ps_expr (pe_bm PySem.F.plainAttrs_list PySem.F.slot_list_insert PySem.F.type_list_insert mt_insert (pe_var hN hv hd hcd) (pa_cons pe_int (pa_cons h pa_nil hst) hst0) hbase hfew hline hst0 hplain) hs) fun Dn σ H ⟨c, ρ, n, P, PX, I, q, hg, hx⟩ => by
    obtain ⟨xs, e1, q⟩ := ownAt_inv q
    obtain ⟨a, vs, e2, e3, z, r⟩ := I.slots i _ e1
    refine ⟨.ref a, slot_some e2, .inl ⟨rfl, _, SqL.of e3⟩, tE.bnd (α := Out) (P := P) (f := fun d => grd (xs.length < sizeLine) (ret (Out.nx (ρ.set i (.own (d :: xs)))))) I q hx.x fun d k v S' H' ⟨z2, p⟩ g I' hx' r' => ?_⟩
    obtain ⟨a', vs', e4, e5, z3, r2⟩ := I'.slots i _ e1
    rw [e2] at e4
    cases e4
    obtain ⟨I3, g3⟩ := I'.mut e1 e2 (ys := d :: xs) (vs := v :: vs') (by rw [List.length_cons]; exact z2) (Reps.cons r' r2)
    exact ⟨a, vs', 0, v, rfl, rfl, e5, by rw [r2.len]; exact z2, Int.le_refl _, by decide, hg.1 _ k σ _ _ p (g.trans g3) I3⟩
theorem sg_ins0 {x : Str} {px pa pc pos p0 : Pos} {j0 : Nat} {e : Expr} {g : Env → W D} {α : Type} {m0 : W α} {f : α → D} {k : α → W γ} {ρ' : α → Env} {xs : List D} (i L : Nat) (h : E G X Wx e g) (hx : ρ[i]? = some (.own xs)) (hg : g ρ = bnd m0 fun a => ret (f a)) (inj : ∀ a b, f a = f b → a = b) (hL : ρ.length = L) (hi : i < L) (hρ : ∀ a, ρ.set i (.own (f a :: xs)) = ρ' a) (hr : ∀ a, SG G X Wx rest (ρ' a) En (k a))
    (hN : X.N[i]? = some x := by rfl) (hv : Vis X.env.scope x := by first | exact Or.inl rfl | exact Or.inr (Or.inl rfl) | exact Or.inr (Or.inr rfl)) (hd : (x == ("__debug__" : Str)) = false := by decide)
    (hcd : (x == ("__classdict__" : Str)) = false := by decide) (hst : starEach [e] X.env = (false, eval e X.env) :: starEach [] X.env := by rfl) (hst0 : starEach [.Constant (.int 0) j0 p0, e] X.env = (false, eval (.Constant (.int 0) j0 p0) X.env) :: starEach [e] X.env := by rfl)
    (hbase : attributeBase (.Name x px) "insert" X.env (eval (.Name x px) X.env) = eval (.Name x px) X.env := by rfl)
    (hfew : ((backTo pc (starEach [.Constant (.int 0) j0 p0, e] X.env)).all (fun x => !x.1) && (backToKw pc (keywordEach [] X.env)).all (fun x => x.1.isSome)
      && decide (([.Constant (.int 0) j0 p0, e] : List Expr).length + ([] : List Keyword).length + (if ([] : List Keyword).isEmpty then 0 else 1) < 30)) = true := by rfl)
    (hline : (pa.endLine == pc.line) = true := by rfl) (hplain : (backTo pc (starEach [e] X.env)).any (·.1) = false := by rfl) (hs : swapsWith (.Call (.Attribute (.Name x px) "insert" pa) [.Constant (.int 0) j0 p0, e] [] pc) none pos.line X.env = pure false := by rfl) :
    SG G X Wx (.Expr (.Call (.Attribute (.Name x px) "insert" pa) [.Constant (.int 0) j0 p0, e] [] pc) pos :: rest) ρ En (bnd m0 fun a => roomL xs (k a)) :=
  sg_eq (sg_stmt (m0 := bnd m0 fun a => roomL xs (ret a)) (e := fun a => ρ.set i (.own (f a :: xs))) (k := k) (s_ins0 i h hN hv hd hcd hst hst0 hbase hfew hline hplain hs) (by
    unfold ownAt
    rw [hx, hg]
    rfl) (own_inj (f := fun a => f a :: xs) (lt_lit hL hi) fun a b h => inj a b (List.cons.inj h).1) fun a => by rw [hρ]; exact hr a) rfl
/-- with a known value -/
theorem sg_ins0P {x : Str} {px pa pc pos p0 : Pos} {j0 : Nat} {e : Expr} {g : Env → W D} {d : D} {ρ' : Env} {xs : List D} (i L : Nat) (h : E G X Wx e g) (hx : ρ[i]? = some (.own xs)) (hg : g ρ = ret d) (hL : ρ.length = L) (hi : i < L) (hρ : ρ.set i (.own (d :: xs)) = ρ') (hr : SG G X Wx rest ρ' En m)
    (hN : X.N[i]? = some x := by rfl) (hv : Vis X.env.scope x := by first | exact Or.inl rfl | exact Or.inr (Or.inl rfl) | exact Or.inr (Or.inr rfl)) (hd : (x == ("__debug__" : Str)) = false := by decide)
    (hcd : (x == ("__classdict__" : Str)) = false := by decide) (hst : starEach [e] X.env = (false, eval e X.env) :: starEach [] X.env := by rfl) (hst0 : starEach [.Constant (.int 0) j0 p0, e] X.env = (false, eval (.Constant (.int 0) j0 p0) X.env) :: starEach [e] X.env := by rfl)
    (hbase : attributeBase (.Name x px) "insert" X.env (eval (.Name x px) X.env) = eval (.Name x px) X.env := by rfl)
    (hfew : ((backTo pc (starEach [.Constant (.int 0) j0 p0, e] X.env)).all (fun x => !x.1) && (backToKw pc (keywordEach [] X.env)).all (fun x => x.1.isSome)
      && decide (([.Constant (.int 0) j0 p0, e] : List Expr).length + ([] : List Keyword).length + (if ([] : List Keyword).isEmpty then 0 else 1) < 30)) = true := by rfl)
    (hline : (pa.endLine == pc.line) = true := by rfl) (hplain : (backTo pc (starEach [e] X.env)).any (·.1) = false := by rfl) (hs : swapsWith (.Call (.Attribute (.Name x px) "insert" pa) [.Constant (.int 0) j0 p0, e] [] pc) none pos.line X.env = pure false := by rfl) :
    SG G X Wx (.Expr (.Call (.Attribute (.Name x px) "insert" pa) [.Constant (.int 0) j0 p0, e] [] pc) pos :: rest) ρ En (roomL xs m) :=
  sg_eq (sg_stmt (m0 := roomL xs (ret ())) (e := fun _ => ρ.set i (.own (d :: xs))) (k := fun _ => m) (s_ins0 i h hN hv hd hcd hst hst0 hbase hfew hline hplain hs) (by
    unfold ownAt
    rw [hx, hg]
    rfl) (fun _ _ _ => rfl) fun _ => by rw [hρ]; exact hr) rfl
/-- xs.append(e), e known -/
theorem sg_appP {x : Str} {px pa pc pos : Pos} {e : Expr} {g : Env → W D} {d : D} {ρ' : Env} {xs : List D} (i L : Nat) (h : E G X Wx e g) (hx : ρ[i]? = some (.own xs)) (hg : g ρ = ret d) (hL : ρ.length = L) (hi : i < L) (hρ : ρ.set i (.own (xs ++ [d])) = ρ') (hr : SG G X Wx rest ρ' En m)
    (hN : X.N[i]? = some x := by rfl) (hv : Vis X.env.scope x := by first | exact Or.inl rfl | exact Or.inr (Or.inl rfl) | exact Or.inr (Or.inr rfl)) (hd : (x == ("__debug__" : Str)) = false := by decide)
    (hcd : (x == ("__classdict__" : Str)) = false := by decide) (hst : starEach [e] X.env = (false, eval e X.env) :: starEach [] X.env := by rfl)
    (hbase : attributeBase (.Name x px) "append" X.env (eval (.Name x px) X.env) = eval (.Name x px) X.env := by rfl)
    (hfew : ((backTo pc (starEach [e] X.env)).all (fun x => !x.1) && (backToKw pc (keywordEach [] X.env)).all (fun x => x.1.isSome)
      && decide (([e] : List Expr).length + ([] : List Keyword).length + (if ([] : List Keyword).isEmpty then 0 else 1) < 30)) = true := by rfl)
    (hline : (pa.endLine == pc.line) = true := by rfl) (hplain : (backTo pc (starEach [] X.env)).any (·.1) = false := by rfl) (hs : swapsWith (.Call (.Attribute (.Name x px) "append" pa) [e] [] pc) none pos.line X.env = pure false := by rfl) :
    SG G X Wx (.Expr (.Call (.Attribute (.Name x px) "append" pa) [e] [] pc) pos :: rest) ρ En (roomL xs m) :=
  sg_eq (sg_stmt (m0 := roomL xs (ret ())) (e := fun _ => ρ.set i (.own (xs ++ [d]))) (k := fun _ => m) (s_app i h hN hv hd hcd hst hbase hfew hline hplain hs) (by
    unfold ownAt
    rw [hx, hg]
    rfl) (fun _ _ _ => rfl) fun _ => by rw [hρ]; exact hr) rfl
theorem w_rng2Z {tg a b : Expr} {p pos : Pos} {ga gb : Env → W D} (hm : X.mg "range" = none) (ha : E G X Wx a ga) (hb : E G X Wx b gb) (hg : Gl X "range" := by rfl) (hs : starEach [a, b] X.env = [(false, eval a X.env), (false, eval b X.env)] := by rfl) (hs2 : starEach [b] X.env = [(false, eval b X.env)] := by rfl) :
    Wk G X Wx tg (.Call (.Name "range" p) [a, b] [] pos) (fun ρ => bnd (bnd (ga ρ) fun x => bnd (gb ρ) fun y => rngD2 x y) fun ys => ret (ys.map .int)) :=
  (w_rng2 hm ha hb hg hs hs2).eq (by
    have q : rng2 = fun x y => bnd (rngD2 x y) fun ys => ret (ys.map D.int) := by
      funext x y
      cases x with
      | int i =>
        cases y with
        | int j =>
          show grd _ (ret (rng i (j - i).toNat)) = _
          rw [rngZ_map]
          rfl
        | _ => rfl
      | _ => rfl
    rw [q]
    rfl)
theorem u1 {A : Around} {k : Nat} (r : Room k A) : A.units + 1 < cLine := by
  have := u64 r
  omega
/-- a list of one's own is given up -/
theorem sg_frz {ss : List Stmt} {ρ' : Env} (i : Nat) (hρ : PL.frz i ρ = ρ') (h : SG G X Wx ss ρ' En m) : SG G X Wx ss ρ En m :=
  weakSs h fun Dn σ H ⟨c, n, P, PX, I, q, hg, hx⟩ => by
    obtain ⟨S', I2, g2⟩ := I.frz i
    rw [hρ] at I2
    exact ⟨_, n, P, PX, I2, q, hg.grow g2, hx.grow g2⟩
end
end PL

/-! The plain side of mirrors by values: rows for simp, what draws give, sizes of what is shown. -/
namespace PL
open PySem PySem.Spec L2
section
variable {α β γ J : Type}
theorem Gen.bind {m : W α} {f : α → W β} {c d : Nat} {R : α → Prop} {Q : β → Prop} (h : Gen m c R) (k : ∀ a, R a → Gen (f a) d Q) : Gen (PL.bnd m f) (c + d) Q := Gen.bnd h k
theorem Gen.dr {b : Int} {f : Int → W β} {c : Nat} {Q : β → Prop} (h0 : 0 < b) (h1 : b < 1073741824) (k : ∀ r : Int, 0 ≤ r → r < b → Gen (f r) c Q) : Gen (PL.bnd (drw b) f) (1 + c) Q := fun n P PX hn kk =>
  ⟨by omega, h0, h1, fun r j q1 q2 q3 q4 => k r q1 q2 ⟨j, n.μ⟩ P PX (by show j + c ≤ _; omega) fun a i hq h3 h4 => kk a i hq (Nat.le_trans q3 h3) (by have h4 : i ≤ j + c := h4; omega)⟩
theorem Gen.dr0 {b : Int} {c : Nat} {Q : Int → Prop} (h0 : 0 < b) (h1 : b < 1073741824) (k : ∀ r : Int, 0 ≤ r → r < b → Q r) : Gen (drw b) 1 Q := fun n P PX hn kk =>
  ⟨by omega, h0, h1, fun r j q1 q2 q3 q4 => kk r j (k r q1 q2) q3 (by omega)⟩
theorem Gen.cond {b : Bool} {m m' : W α} {c d : Nat} {Q : α → Prop} (h1 : b = true → Gen m c Q) (h2 : b = false → Gen m' d Q) : Gen (if b = true then m else m') (Nat.max c d) Q := by
  cases b with
  | true => exact (h1 rfl).up (Nat.le_max_left _ _)
  | false => exact (h2 rfl).up (Nat.le_max_right _ _)
theorem Gen.eqm {m m' : W α} {c : Nat} {Q : α → Prop} (e : m = m') (h : Gen m' c Q) : Gen m c Q := e ▸ h
theorem Gen.is {m : W α} {a : α} {Q : α → Prop} (e : m = PL.ret a) (q : Q a) : Gen m 0 Q := e ▸ Gen.ret q
theorem Gen.room {xs : List D} {m : W α} {c : Nat} {Q : α → Prop} (h : xs.length < 1000000) (k : Gen m c Q) : Gen (roomL xs m) c Q := Gen.grd (by rw [sizeLine_eq]; omega) k
theorem room_pos {xs : List D} {m : W α} (h : xs.length < 1000000) : roomL xs m = m := grd_pos (by rw [sizeLine_eq]; omega) m
theorem fewN_pos {n : Nat} {m : W α} (h : n ≤ 1000000) : fewN n m = m := grd_pos (by rw [sizeLine_eq]; omega) m
theorem Gen.compP {f : α → W (Option D)} {c : Nat} {Q : D → Prop} : ∀ {xs : List α}, (∀ x ∈ xs, Gen (f x) c fun o => ∀ y, o = some y → Q y) → Gen (PL.compP f xs) (c * xs.length) fun ys => ys.length ≤ xs.length ∧ ∀ y ∈ ys, Q y
  | [], _ => Gen.ret ⟨Nat.le_refl _, fun _ h => nomatch h⟩
  | x :: xs, h => by
    have ih := Gen.compP (xs := xs) fun y hy => h y (List.mem_cons_of_mem _ hy)
    refine (Gen.bnd (h x List.mem_cons_self) (d := c * xs.length) fun o ho => ?_).up (by rw [List.length_cons, Nat.mul_add]; omega)
    cases o with
    | none => exact ih.to fun ys q => ⟨Nat.le_succ_of_le q.1, q.2⟩
    | some y =>
      refine (Gen.bnd (d := 0) ih fun (ys : List D) q => Gen.ret (a := y :: ys) (Q := fun ys : List D => ys.length ≤ (x :: xs).length ∧ ∀ y ∈ ys, Q y) ⟨Nat.succ_le_succ q.1, fun z hz => ?_⟩).up (Nat.le_refl _)
      rcases List.mem_cons.mp hz with rfl | hz
      · exact ho z rfl
      · exact q.2 z hz
theorem Gen.compM {f : α → W D} {c : Nat} {Q : D → Prop} : ∀ {xs : List α}, (∀ x ∈ xs, Gen (f x) c Q) → Gen (PL.compP (fun x => PL.bnd (f x) fun y => PL.ret (some y)) xs) (c * xs.length) fun ys => ys.length = xs.length ∧ ∀ y ∈ ys, Q y
  | [], _ => Gen.ret ⟨rfl, fun _ h => nomatch h⟩
  | x :: xs, h => by
    have ih := Gen.compM (xs := xs) fun y hy => h y (List.mem_cons_of_mem _ hy)
    show Gen (PL.bnd (PL.bnd (f x) _) _) _ _
    rw [bnd_bnd]
    refine (Gen.bnd (h x List.mem_cons_self) (d := c * xs.length) fun y hy => ?_).up (by rw [List.length_cons, Nat.mul_add]; omega)
    rw [bnd_ret]
    refine (Gen.bnd (d := 0) ih fun ys q => Gen.ret (Q := fun ys : List D => ys.length = (x :: xs).length ∧ ∀ y ∈ ys, Q y) ⟨by rw [List.length_cons, q.1, List.length_cons], fun z hz => ?_⟩).up (Nat.le_refl _)
    rcases List.mem_cons.mp hz with rfl | hz
    · exact hy
    · exact q.2 z hz
theorem Gen.map {f : α → W D} {xs : List α} {c : Nat} {Q : D → Prop} (n : Nat) (hn : xs.length ≤ n) (h : ∀ x ∈ xs, Gen (f x) c Q) (hz : n ≤ 1000000 := by decide) : Gen (mapP f xs) (c * n) fun ys => ys.length = xs.length ∧ ∀ y ∈ ys, Q y := by
  unfold mapP
  rw [fewN_pos (by omega)]
  exact Gen.quiet ((Gen.compM h).up (Nat.mul_le_mul_left _ hn))
/-- a loop with an invariant that may count the turns -/
theorem Gen.forI {bd : α → J → W (Step J γ)} {k : J → W γ} {c d n : Nat} {I : Nat → J → Prop} {Q : γ → Prop} : ∀ {xs : List α} {i : Nat} {j : J}, xs.length + i ≤ n → (∀ x ∈ xs, ∀ i j, i < n → I i j → Gen (bd x j) c fun o => match o with | .go j' => I (i + 1) j' | .bk j' => Gen (k j') d Q | .out g => Q g) →
    (∀ j, I (xs.length + i) j → Gen (k j) d Q) → I i j → Gen (forT bd k xs j) (c * xs.length + d) Q
  | [], i, j, _, _, hk, h0 => (hk j (by rw [List.length_nil, Nat.zero_add]; exact h0)).up (by omega)
  | x :: xs, i, j, hn, hb, hk, h0 => by
    rw [List.length_cons] at hn
    refine (Gen.bnd (hb x List.mem_cons_self i j (by omega) h0) (d := c * xs.length + d) fun o q => ?_).up (by rw [List.length_cons, Nat.mul_add]; omega)
    cases o with
    | go j' => exact Gen.forI (i := i + 1) (by omega) (fun y hy => hb y (List.mem_cons_of_mem _ hy)) (fun j hj => hk j (by rw [List.length_cons, show xs.length + 1 + i = xs.length + (i + 1) by omega]; exact hj)) q
    | bk j' => exact Gen.up (show Gen (k j') d Q from q) (by omega)
    | out g => exact (Gen.ret (show Q g from q)).up (Nat.zero_le _)
theorem Gen.forS {bd : α → J → W (Step J γ)} {k : J → W γ} {c d : Nat} {xs : List α} {j : J} (n : Nat) (I : J → Prop) {Q : γ → Prop} (hn : xs.length ≤ n) (h0 : I j) (hb : ∀ x ∈ xs, ∀ j, I j → Gen (bd x j) c fun o => match o with | .go j' => I j' | .bk j' => Gen (k j') d Q | .out g => Q g)
    (hk : ∀ j, I j → Gen (k j) d Q) : Gen (forT bd k xs j) (c * n + d) Q :=
  (Gen.forI (I := fun _ => I) (i := 0) (n := n) (by omega) (fun x hx _ j _ => hb x hx j) (fun j => hk j) h0).up (by have := Nat.mul_le_mul_left c hn; omega)
/-- a loop each of whose turns is known -/
def runS (st : α → J → Step J γ) : List α → J → Step J γ
  | [], j => .go j
  | x :: xs, j => match st x j with
    | .go j' => runS st xs j'
    | .bk j' => .bk j'
    | .out g => .out g
theorem forT_run {bd : α → J → W (Step J γ)} {k : J → W γ} {st : α → J → Step J γ} {I : J → Prop} : ∀ {xs : List α} {j : J}, (∀ x ∈ xs, ∀ j, I j → bd x j = PL.ret (st x j) ∧ ∀ j', st x j = .go j' → I j') → I j → forT bd k xs j = joinK k (runS st xs j)
  | [], _, _, _ => rfl
  | x :: xs, j, h, h0 => by
    obtain ⟨e, hi⟩ := h x List.mem_cons_self j h0
    show PL.bnd (bd x j) _ = _
    rw [e, bnd_ret]
    show forK k _ (st x j) = joinK k (match st x j with | .go j' => runS st xs j' | .bk j' => .bk j' | .out g => .out g)
    cases q : st x j with
    | go j' => exact forT_run (fun y hy => h y (List.mem_cons_of_mem _ hy)) (hi j' q)
    | bk j' => rfl
    | out g => rfl
/-- [f(x) for x in xs], f known -/
theorem compP_ret {f : α → W (Option D)} {g : α → Option D} : ∀ {xs : List α}, (∀ x ∈ xs, f x = PL.ret (g x)) → PL.compP f xs = PL.ret (xs.filterMap g)
  | [], _ => rfl
  | x :: xs, h => by
    have ih := compP_ret (xs := xs) fun y hy => h y (List.mem_cons_of_mem _ hy)
    show PL.bnd (f x) _ = _
    rw [h x List.mem_cons_self, bnd_ret, List.filterMap_cons]
    cases q : g x with
    | none => exact ih
    | some y =>
      show PL.bnd (PL.compP f xs) _ = _
      rw [ih]
      rfl
theorem mapP_ret {f : α → W D} {g : α → D} {xs : List α} (hn : xs.length ≤ 1000000) (h : ∀ x ∈ xs, f x = PL.ret (g x)) : mapP f xs = PL.ret (xs.map g) := by
  unfold mapP
  rw [fewN_pos hn, compP_ret (g := fun x => some (g x)) fun x hx => by rw [h x hx]; rfl, List.filterMap_eq_map']
  rfl
theorem selP_ret {t : α → W Bool} {f : α → W D} {p : α → Bool} {g : α → D} {xs : List α} (hn : xs.length ≤ 1000000) (ht : ∀ x ∈ xs, t x = PL.ret (p x)) (h : ∀ x ∈ xs, p x = true → f x = PL.ret (g x)) : selP t f xs = PL.ret ((xs.filter p).map g) := by
  unfold selP
  have e : ∀ ys : List α, ys.filterMap (fun x => if p x = true then some (g x) else none) = (ys.filter p).map g := fun ys => by
    induction ys with
    | nil => rfl
    | cons y ys ih =>
      rw [List.filterMap_cons]
      cases q : p y with
      | true => simp [q, ih]
      | false => simp [q, ih]
  rw [fewN_pos hn, compP_ret (g := fun x => if p x = true then some (g x) else none) fun x hx => by
    rw [ht x hx, bnd_ret]
    cases q : p x with
    | true => rw [if_pos rfl, h x hx q]; rfl
    | false => rfl, e]
  rfl
theorem rngZ_len (lo : Int) (n : Nat) : (rngZ lo n).length = n := by unfold rngZ; rw [List.length_map, List.length_range]
theorem rngZ_mem {lo : Int} {n : Nat} {x : Int} (h : x ∈ rngZ lo n) : lo ≤ x ∧ x < lo + n := by
  unfold rngZ at h
  obtain ⟨i, h1, h2⟩ := List.mem_map.mp h
  have := List.mem_range.mp h1
  omega
theorem rngI_ret {i : Int} (h : -1000000 ≤ i ∧ i ≤ 1000000) : rngI i = PL.ret (rngZ 0 i.toNat) := grd_pos (by unfold inR; omega) _
theorem enumZ_len : ∀ (i : Nat) (xs : List D), (enumZ i xs).length = xs.length
  | _, [] => rfl
  | i, x :: xs => by
    show _ + 1 = _ + 1
    rw [enumZ_len (i + 1) xs]
end
/-! ### rows -/
theorem eqB_str (a b : Str) : eqB (.str a) (.str b) = PL.ret (a == b) := by
  unfold eqB
  rw [grd_pos (.inr (.inr rfl))]
  simp [py, PyData.eqv]
theorem neB_str (a b : Str) : neB (.str a) (.str b) = PL.ret (!(a == b)) := by
  unfold neB
  rw [grd_pos (.inr (.inr rfl))]
  simp [py, PyData.eqv]
theorem eqB_int (i j : Int) : eqB (.int i) (.int j) = PL.ret (decide (i = j)) := by
  unfold eqB
  rw [grd_pos (.inl ⟨rfl, rfl⟩)]
  simp only [py, PyData.eqv]
  rfl
theorem eqB_nil {xs : List D} : eqB (.lst xs) (.lst []) = PL.ret xs.isEmpty := by
  unfold eqB
  rw [grd_pos (by cases xs <;> first | exact .inl ⟨rfl, rfl⟩ | exact .inr (.inl rfl))]
  cases xs <;> simp [py, pys, PyData.eqv, PyData.eqvAll]
theorem neB_nil {xs : List D} : neB (.lst xs) (.lst []) = PL.ret (!xs.isEmpty) := by
  unfold neB
  rw [grd_pos (by cases xs <;> first | exact .inl ⟨rfl, rfl⟩ | exact .inr (.inl rfl))]
  cases xs <;> simp [py, pys, PyData.eqv, PyData.eqvAll]
theorem okD_nil : okD (.tup []) = true := by decide +kernel
theorem eqB_nilT {xs : List D} (h : okD (.tup xs) = true) : eqB (.tup xs) (.tup []) = PL.ret xs.isEmpty := by
  unfold eqB
  rw [grd_pos (.inl ⟨h, okD_nil⟩)]
  cases xs <;> simp [py, pys, PyData.eqv, PyData.eqvAll]
theorem okD_lay {x : D} (h : okD x = true) : (py x).canLay0 = true := by
  unfold okD SeqAt.shaped at h
  rw [Bool.and_eq_true] at h
  exact h.1
theorem eqB_same {x : D} (h : okD x = true) : eqB x x = PL.ret true := by
  unfold eqB
  rw [grd_pos (.inl ⟨h, h⟩), SeqAt.eqv_refl _ (okD_lay h)]
theorem neB_same {x : D} (h : okD x = true) : neB x x = PL.ret false := by
  unfold neB
  rw [grd_pos (.inl ⟨h, h⟩), SeqAt.eqv_refl _ (okD_lay h)]
  rfl
theorem addL_ok {xs ys : List D} (h : xs.length + ys.length ≤ 1000000) : addL xs ys = PL.ret (xs ++ ys) := grd_pos (by rw [sizeLine_eq]; omega) _
theorem mulI_ok {i j : Int} (h : -1000000000000 ≤ i ∧ i ≤ 1000000000000) : mulI i j = PL.ret (i * j) := grd_pos (.inl ⟨by omega, by omega⟩) _
theorem ixL {xs : List D} {i : Nat} (h : i < xs.length) : ixD (.lst xs) (.int i) = PL.ret xs[i] := ix_l (atI_nat (List.getElem?_eq_getElem h))
theorem ixLZ {xs : List D} {i : Int} (h0 : 0 ≤ i) (h : i < xs.length) : ∃ x ∈ xs, ixD (.lst xs) (.int i) = PL.ret x := by
  obtain ⟨n, rfl⟩ := Int.eq_ofNat_of_zero_le h0
  have hn : n < xs.length := by omega
  exact ⟨xs[n], List.getElem_mem hn, ixL hn⟩
theorem ixTZ {xs : List D} {i : Int} (h0 : 0 ≤ i) (h : i < xs.length) : ∃ x ∈ xs, ixD (.tup xs) (.int i) = PL.ret x := by
  obtain ⟨n, rfl⟩ := Int.eq_ofNat_of_zero_le h0
  have hn : n < xs.length := by omega
  exact ⟨xs[n], List.getElem_mem hn, ix_atT hn⟩
theorem ixSZ {s : Str} {i : Int} (h0 : 0 ≤ i) (h : i < s.length) : ∃ k ∈ s.cps.toList, ixD (.str s) (.int i) = PL.ret (chD k) := by
  obtain ⟨n, rfl⟩ := Int.eq_ofNat_of_zero_le h0
  have hn : n < s.cps.toList.length := by
    have : s.length = s.cps.size := rfl
    rw [Array.length_toList]
    omega
  exact ⟨s.cps.toList[n], List.getElem_mem hn, ix_s (atI_nat (List.getElem?_eq_getElem hn))⟩
/-- one of several, drawn -/
theorem Gen.pickL {β : Type} {xs : List D} {i : Int} {f : D → W β} {c : Nat} {Q : β → Prop} (h0 : 0 ≤ i) (h : i < xs.length) (k : ∀ y ∈ xs, Gen (f y) c Q) : Gen (PL.bnd (ixD (.lst xs) (.int i)) f) c Q := by
  obtain ⟨x, hx, e⟩ := ixLZ h0 h
  rw [e, bnd_ret]
  exact k x hx
theorem Gen.pickL0 {xs : List D} {i : Int} {Q : D → Prop} (h0 : 0 ≤ i) (h : i < xs.length) (k : ∀ y ∈ xs, Q y) : Gen (ixD (.lst xs) (.int i)) 0 Q := by
  obtain ⟨x, hx, e⟩ := ixLZ h0 h
  rw [e]
  exact Gen.ret (k x hx)
/-! ### sizes -/
def Sz (B k : Nat) (x : D) : Prop := Ok x ∧ (py x).bulk ≤ B ∧ (py x).depth ≤ k
theorem Sz.up {B B' k k' : Nat} {x : D} (h : Sz B k x) (h1 : B ≤ B') (h2 : k ≤ k') : Sz B' k' x := ⟨h.1, Nat.le_trans h.2.1 h1, Nat.le_trans h.2.2 h2⟩
def bulks (xs : List D) : Nat := PyData.bulkAll (pys xs)
theorem bulks_nil : bulks [] = 0 := by simp [bulks, pys, PyData.bulkAll]
theorem bulks_cons (x : D) (xs : List D) : bulks (x :: xs) = (py x).bulk + 1 + bulks xs := by simp [bulks, pys, PyData.bulkAll]
theorem bulks_app (xs ys : List D) : bulks (xs ++ ys) = bulks xs + bulks ys := by
  induction xs with
  | nil => rw [bulks_nil]; simp
  | cons x xs ih => rw [List.cons_append, bulks_cons, bulks_cons, ih]; omega
theorem bulks_len (xs : List D) : xs.length ≤ bulks xs := by
  induction xs with
  | nil => exact Nat.zero_le _
  | cons x xs ih => rw [bulks_cons, List.length_cons]; omega
theorem bulks_le {B : Nat} {xs : List D} (h : ∀ x ∈ xs, (py x).bulk ≤ B) : bulks xs ≤ (B + 1) * xs.length := by
  induction xs with
  | nil => rw [bulks_nil]; exact Nat.zero_le _
  | cons x xs ih =>
    have a := h x List.mem_cons_self
    have b := ih fun y hy => h y (List.mem_cons_of_mem _ hy)
    rw [bulks_cons, List.length_cons, Nat.mul_add]
    omega
theorem bulks_take (xs : List D) (r : Nat) : bulks (xs.take r) ≤ bulks xs := by
  have e : bulks (xs.take r ++ xs.drop r) = bulks xs := by rw [List.take_append_drop]
  rw [bulks_app] at e
  omega
theorem bulks_drop (xs : List D) (r : Nat) : bulks (xs.drop r) ≤ bulks xs := by
  have e : bulks (xs.take r ++ xs.drop r) = bulks xs := by rw [List.take_append_drop]
  rw [bulks_app] at e
  omega
theorem bulks_split {xs : List D} {r : Nat} (h : r < xs.length) : bulks (xs.take r) + ((py xs[r]).bulk + 1) + bulks (xs.drop (r + 1)) = bulks xs := by
  have e : bulks (xs.take r ++ xs.drop r) = bulks xs := by rw [List.take_append_drop]
  rw [bulks_app, List.drop_eq_getElem_cons h, bulks_cons] at e
  omega
theorem depths_le {k : Nat} {xs : List D} : PyData.depthAll (pys xs) ≤ k ↔ ∀ x ∈ xs, (py x).depth ≤ k := by
  induction xs with
  | nil => simp [pys, PyData.depthAll]
  | cons x xs ih => simp [pys, PyData.depthAll, Nat.max_le, ih]
/-- the parts of a tuple or list -/
def Parts (k : Nat) (xs : List D) : Prop := ∀ x ∈ xs, Ok x ∧ (py x).depth ≤ k
theorem Parts.up {j k : Nat} {xs : List D} (h : Parts j xs) (hk : j ≤ k) : Parts k xs := fun x hx => ⟨(h x hx).1, Nat.le_trans (h x hx).2 hk⟩
theorem Parts.app {k : Nat} {xs ys : List D} (h : Parts k xs) (h2 : Parts k ys) : Parts k (xs ++ ys) := fun x hx => (List.mem_append.mp hx).elim (h x) (h2 x)
theorem Parts.take {k : Nat} {xs : List D} (h : Parts k xs) (r : Nat) : Parts k (xs.take r) := fun x hx => h x (List.mem_of_mem_take hx)
theorem Parts.drop {k : Nat} {xs : List D} (h : Parts k xs) (r : Nat) : Parts k (xs.drop r) := fun x hx => h x (List.mem_of_mem_drop hx)
theorem Parts.nil {k : Nat} : Parts k [] := fun _ h => nomatch h
theorem Parts.cons {k : Nat} {x : D} {xs : List D} (h : Ok x ∧ (py x).depth ≤ k) (h2 : Parts k xs) : Parts k (x :: xs) := fun y hy => (List.mem_cons.mp hy).elim (fun e => e ▸ h) (h2 y)
theorem Sz.pt {B k : Nat} {x : D} (h : Sz B k x) : Ok x ∧ (py x).depth ≤ k := ⟨h.1, h.2.2⟩
theorem Sz.tup {B k : Nat} {xs : List D} (h : Parts k xs) (hb : bulks xs ≤ B) : Sz B (k + 1) (.tup xs) :=
  ⟨.tup fun x hx => (h x hx).1, by simpa [py, PyData.bulk, bulks] using hb, by simp only [py, PyData.depth]; exact Nat.succ_le_succ (depths_le.mpr fun x hx => (h x hx).2)⟩
theorem Sz.lst {B k : Nat} {xs : List D} (h : Parts k xs) (hb : bulks xs ≤ B) : Sz B (k + 1) (.lst xs) :=
  ⟨.lst fun x hx => (h x hx).1, by simpa [py, PyData.bulk, bulks] using hb, by simp only [py, PyData.depth]; exact Nat.succ_le_succ (depths_le.mpr fun x hx => (h x hx).2)⟩
theorem Sz.of_lst {B k : Nat} {xs : List D} (h : Sz B k (.lst xs)) : ∃ j, k = j + 1 ∧ Parts j xs ∧ bulks xs ≤ B := by
  obtain ⟨h1, h2, h3⟩ := h
  simp only [py, PyData.depth] at h3
  refine ⟨k - 1, by omega, fun x hx => ⟨?_, ?_⟩, by simpa [py, PyData.bulk, bulks] using h2⟩
  · cases h1 with
    | lst h => exact h x hx
  · exact depths_le.mp (show PyData.depthAll (pys xs) ≤ k - 1 by omega) x hx
theorem Sz.of_tup {B k : Nat} {xs : List D} (h : Sz B k (.tup xs)) : ∃ j, k = j + 1 ∧ Parts j xs ∧ bulks xs ≤ B := by
  obtain ⟨h1, h2, h3⟩ := h
  simp only [py, PyData.depth] at h3
  refine ⟨k - 1, by omega, fun x hx => ⟨?_, ?_⟩, by simpa [py, PyData.bulk, bulks] using h2⟩
  · cases h1 with
    | tup h => exact h x hx
  · exact depths_le.mp (show PyData.depthAll (pys xs) ≤ k - 1 by omega) x hx
theorem Sz.str {s : Str} {B k : Nat} (h : okD (.str s) = true) (h2 : s.length ≤ B) : Sz B k (.str s) := ⟨.str h, by simp only [py, PyData.bulk]; exact h2, by simp [py, PyData.depth]⟩
theorem Sz.int {i : Int} {B k : Nat} (h : i.natAbs < 10 ^ 61) : Sz B k (.int i) := ⟨.int h, by simp [py, PyData.bulk], by simp [py, PyData.depth]⟩
theorem Sz.bl {b : Bool} {B k : Nat} : Sz B k (.bl b) := ⟨.bl b, by simp [py, PyData.bulk], by simp [py, PyData.depth]⟩
theorem Sz.non {B k : Nat} : Sz B k .non := ⟨.non, by simp [py, PyData.bulk], by simp [py, PyData.depth]⟩
theorem repr_sz {B k : Nat} {x : D} (h : Sz B k x) (hb : B ≤ 200000) (hd : k ≤ 64) : reprD x = PL.ret (.str (py x).shown) := (repr_ok h.1 (Nat.le_trans h.2.1 hb) (Nat.le_trans h.2.2 hd)).1
theorem bulks_mem {x : D} {xs : List D} (h : x ∈ xs) : (py x).bulk + 1 ≤ bulks xs := by
  induction xs with
  | nil => cases h
  | cons y ys ih =>
    rw [bulks_cons]
    rcases List.mem_cons.mp h with rfl | h
    · omega
    · have := ih h
      omega
theorem Sz.mem_tup {B k : Nat} {x : D} {xs : List D} (h : Sz B k (.tup xs)) (hx : x ∈ xs) : Sz B k x := by
  obtain ⟨j, rfl, hp, hb⟩ := h.of_tup
  have := bulks_mem hx
  exact ⟨(hp x hx).1, by omega, Nat.le_succ_of_le (hp x hx).2⟩
theorem Sz.mem_lst {B k : Nat} {x : D} {xs : List D} (h : Sz B k (.lst xs)) (hx : x ∈ xs) : Sz B k x := by
  obtain ⟨j, rfl, hp, hb⟩ := h.of_lst
  have := bulks_mem hx
  exact ⟨(hp x hx).1, by omega, Nat.le_succ_of_le (hp x hx).2⟩
theorem Sz.len_tup {B k : Nat} {xs : List D} (h : Sz B k (.tup xs)) : xs.length ≤ B := by
  obtain ⟨j, rfl, hp, hb⟩ := h.of_tup
  have := bulks_len xs
  omega
end PL

/-! Words, values, stores, states as data. -/
namespace PL
open PySem PySem.Spec L2
def lower (k : Nat) : Bool := decide (97 ≤ k ∧ k ≤ 122)
def wordB : D → Bool
  | .str s => decide (1 ≤ (s.length : Int)) && decide ((s.length : Int) ≤ 8) && s.cps.toList.all lower
  | _ => false
theorem bls_map {α : Type} (f : α → Bool) : ∀ xs : List α, bls (xs.map fun k => D.bl (f k)) = some (xs.map f)
  | [] => rfl
  | x :: xs => by
    show (bls (xs.map _)).map _ = _
    rw [bls_map f xs]
    rfl
theorem all_bls {α : Type} (f : α → Bool) (xs : List α) : allD (.lst (xs.map fun k => D.bl (f k))) = ret (.bl (xs.all f)) := by
  show (match bls (xs.map fun k => D.bl (f k)) with | some bs => PL.ret (D.bl (bs.all id)) | none => stuck : W D) = _
  rw [bls_map]
  congr 2
  induction xs with
  | nil => rfl
  | cons x l ih => simp [List.all_cons]
theorem abc : (Str.ofString "abcdefghijklmnopqrstuvwxyz").cps.toList = [97, 98, 99, 100, 101, 102, 103, 104, 105, 106, 107, 108, 109, 110, 111, 112, 113, 114, 115, 116, 117, 118, 119, 120, 121, 122] := by decide +kernel
theorem letters (k : Nat) : decide (k ∈ (Str.ofString "abcdefghijklmnopqrstuvwxyz").cps.toList) = lower k := by
  rw [abc]
  unfold lower
  apply decide_eq_decide.mpr
  simp only [List.mem_cons, List.not_mem_nil, or_false]
  omega
theorem in_abc (k : Nat) : inStr false (chD k) (.str (Str.ofString "abcdefghijklmnopqrstuvwxyz")) = ret (.bl (lower k)) := by
  show PL.ret (D.bl (decide (k ∈ (Str.ofString "abcdefghijklmnopqrstuvwxyz").cps.toList))) = _
  rw [letters]
theorem short8 {s : Str} (h : (s.length : Int) ≤ 8) : s.cps.toList.length ≤ 1000000 := by
  rw [Array.length_toList]
  have : s.length = s.cps.size := rfl
  omega
theorem az (k : Nat) : (!decide ((Str.mk #[k]).cps.toList < (Str.ofString "a").cps.toList)) = decide (97 ≤ k) ∧ (!decide ((Str.ofString "z").cps.toList < (Str.mk #[k]).cps.toList)) = decide (k ≤ 122) := by
  have ea : (Str.ofString "a").cps.toList = [97] := by decide +kernel
  have ez : (Str.ofString "z").cps.toList = [122] := by decide +kernel
  have ek : (Str.mk #[k]).cps.toList = [k] := rfl
  have one : ∀ a b : Nat, ([a] : List Nat) < [b] ↔ a < b := fun a b => by
    rw [List.cons_lt_cons_iff]
    simp
  rw [ea, ez, ek]
  constructor
  · rw [← decide_not]
    apply decide_eq_decide.mpr
    rw [one]
    omega
  · rw [← decide_not]
    apply decide_eq_decide.mpr
    rw [one]
    omega
def numB : D → Bool
  | .int i => decide (-1000000000000000000 ≤ i) && decide (i ≤ 1000000000000000000)
  | _ => false
/-! ### what is drawn -/
def IsW (d : D) : Prop := ∃ s : Str, d = .str s ∧ wordB (.str s) = true
theorem lower_of {k : Nat} (h : k ∈ (Str.ofString "abcdefghijklmnopqrstuvwxyz").cps.toList) : lower k = true := by
  rw [← letters]
  exact decide_eq_true h
theorem wordB_signs (ks : List Nat) (h1 : 1 ≤ ks.length) (h2 : ks.length ≤ 8) (h : ∀ k ∈ ks, lower k = true) : wordB (.str ⟨ks.toArray⟩) = true := by
  have e : (Str.mk ks.toArray).length = ks.length := List.size_toArray
  simp only [wordB, Bool.and_eq_true, decide_eq_true_eq, List.all_eq_true, e]
  refine ⟨⟨by omega, by omega⟩, fun k hk => h k hk⟩
theorem IsW.ch {k : Nat} (h : lower k = true) : IsW (chD k) := ⟨⟨#[k]⟩, rfl, wordB_signs [k] (Nat.le_refl _) (by show 1 ≤ 8; decide) fun j hj => by rw [List.mem_singleton.mp hj]; exact h⟩
theorem IsW.ok {d : D} (h : IsW d) {k : Nat} : Sz 8 k d := by
  obtain ⟨s, rfl, h⟩ := h
  simp only [wordB, Bool.and_eq_true, decide_eq_true_eq, List.all_eq_true] at h
  refine Sz.str (okD_small fun k hk => ?_) (by omega)
  have := h.2 k hk
  simp only [lower, decide_eq_true_eq] at this
  omega
def IsN (d : D) : Prop := ∃ i : Int, d = .int i ∧ numB (.int i) = true
theorem IsN.ok {d : D} (h : IsN d) {B k : Nat} : Sz B k d := by
  obtain ⟨i, rfl, h⟩ := h
  simp only [numB, Bool.and_eq_true, decide_eq_true_eq] at h
  refine Sz.int ?_
  have e : (10 : Nat) ^ 61 = 10000000000000000000000000000000000000000000000000000000000000 := by decide
  rw [e]
  omega
/-! ### stores -/
def ltQ (a b : Str) : Bool := decide (a.cps.toList < b.cps.toList)
theorem leD_str (a b : Str) : leD (.str a) (.str b) = ret (.bl (!ltQ b a)) := rfl
def pairK : D → Option (Str × D)
  | .tup [.str a, y] => some (a, y)
  | _ => none
theorem pairK_some {x : D} {p : Str × D} (h : pairK x = some p) : x = .tup [.str p.1, p.2] := by
  unfold pairK at h
  split at h
  · cases h; rfl
  · cases h
/-- pairs with ascending words, whose second parts are as told -/
def ascB (v : D → Bool) : Str → List D → Bool
  | _, [] => true
  | last, x :: r => match pairK x with
    | some p => wordB (.str p.1) && ltQ last p.1 && v p.2 && ascB v p.1 r
    | none => false
theorem ascB_some {v : D → Bool} {last : Str} {x : D} {r : List D} {p : Str × D} (h : pairK x = some p) : ascB v last (x :: r) = (wordB (.str p.1) && ltQ last p.1 && v p.2 && ascB v p.1 r) := by
  show (match pairK x with | some p => wordB (.str p.1) && ltQ last p.1 && v p.2 && ascB v p.1 r | none => false) = _
  rw [h]
theorem ascB_none {v : D → Bool} {last : Str} {x : D} {r : List D} (h : pairK x = none) : ascB v last (x :: r) = false := by
  show (match pairK x with | some p => wordB (.str p.1) && ltQ last p.1 && v p.2 && ascB v p.1 r | none => false) = _
  rw [h]
def pairsB (v : D → Bool) : D → Bool
  | .tup xs => ascB v (Str.ofString "") xs
  | _ => false
def stP (pair j : D) : Step D D := match pairK pair, j with
  | some p, .str last => if (wordB (.str p.1) && ltQ last p.1) = true then .go (.str p.1) else .out (.bl false)
  | _, _ => .out (.bl false)
theorem run_pairs : ∀ (xs : List D) (last : Str), (joinK (fun _ => ret (.bl true)) (runS stP xs (.str last)) : W D) = ret (.bl (ascB (fun _ => true) last xs))
  | [], _ => rfl
  | x :: xs, last => by
    cases q : pairK x with
    | none =>
      rw [ascB_none q]
      unfold runS
      rw [show stP x (.str last) = .out (.bl false) by unfold stP; rw [q]]
      rfl
    | some p =>
      rw [ascB_some q]
      have e : stP x (.str last) = if (wordB (.str p.1) && ltQ last p.1) = true then .go (.str p.1) else .out (.bl false) := by unfold stP; rw [q]
      unfold runS
      rw [e]
      cases h : (wordB (.str p.1) && ltQ last p.1) with
      | true =>
        rw [if_pos rfl]
        show joinK _ (runS stP xs (.str p.1)) = _
        rw [run_pairs xs p.1, Bool.true_and, Bool.true_and]
      | false => rfl
theorem asc_shape {v : D → Bool} : ∀ {xs : List D} {last : Str}, ascB v last xs = true → ∀ x ∈ xs, ∃ a y, x = .tup [.str a, y] ∧ wordB (.str a) = true ∧ v y = true
  | [], _, _, x, hx => nomatch hx
  | z :: r, last, h, x, hx => by
    cases q : pairK z with
    | none => rw [ascB_none q] at h; cases h
    | some p =>
      rw [ascB_some q] at h
      simp only [Bool.and_eq_true] at h
      rcases List.mem_cons.mp hx with rfl | hx
      · exact ⟨p.1, p.2, pairK_some q, h.1.1.1, h.1.2⟩
      · exact asc_shape h.2 x hx
theorem asc_all (v : D → Bool) (w : D → Bool) (hw : ∀ a y, w (.tup [.str a, y]) = v y) : ∀ (xs : List D) (last : Str), ascB (fun _ => true) last xs = true → xs.all w = ascB v last xs
  | [], _, _ => rfl
  | z :: r, last, h => by
    cases q : pairK z with
    | none => rw [ascB_none q] at h; cases h
    | some p =>
      rw [ascB_some q] at h ⊢
      simp only [Bool.and_eq_true] at h
      have ih := asc_all v w hw r p.1 h.2
      rw [List.all_cons, ih, pairK_some q, hw, h.1.1.1, h.1.1.2]
      rfl
theorem asc_none (v : D → Bool) : ∀ (xs : List D) (last : Str), ascB (fun _ => true) last xs = false → ascB v last xs = false
  | [], _, h => by cases h
  | z :: r, last, h => by
    cases q : pairK z with
    | none => rw [ascB_none q]
    | some p =>
      rw [ascB_some q] at h ⊢
      cases h2 : (wordB (.str p.1) && ltQ last p.1) with
      | false => rfl
      | true =>
        rw [h2] at h
        rw [asc_none v r p.1 (by simpa using h), Bool.and_false]
def storeB (x : D) : Bool := pairsB numB x
/-! ### states -/
def markB : D → Bool
  | .tup [a, b] => wordB a && storeB b
  | _ => false
def stateB : D → Bool
  | .tup [s, .tup ms] => storeB s && ms.all markB
  | _ => false
theorem cut_take (xs : List D) (r : Nat) : cutD xs none (some (r : Int)) = xs.take r := by
  unfold cutD
  rw [HT.sIx_none, HT.sIx_nat, List.drop_zero, Nat.sub_zero]
  by_cases h : r ≤ xs.length
  · rw [Nat.min_eq_left h]
  · rw [Nat.min_eq_right (by omega), List.take_length, List.take_of_length_le (by omega)]
theorem cut_drop (xs : List D) (r : Nat) : cutD xs (some (r : Int)) none = xs.drop r := by
  unfold cutD
  rw [HT.sIx_none, HT.sIx_nat]
  by_cases h : r ≤ xs.length
  · rw [Nat.min_eq_left h, List.take_of_length_le (by rw [List.length_drop]; omega)]
  · rw [Nat.min_eq_right (by omega), List.drop_length, List.drop_of_length_le (by omega), List.take_nil]
theorem lst_add (xs ys : List D) (h : xs.length + ys.length ≤ 1000000) : addD (.lst xs) (.lst ys) = ret (.lst (xs ++ ys)) := by
  show grd _ _ = _
  exact grd_pos (by rw [sizeLine_eq]; omega) _
theorem tup_add (xs ys : List D) (h : xs.length + ys.length ≤ 1000000) : addD (.tup xs) (.tup ys) = ret (.tup (xs ++ ys)) := by
  show grd _ _ = _
  exact grd_pos (by rw [sizeLine_eq]; omega) _
theorem slD_lst (xs : List D) (lo hi : Option Int) : slD (.lst xs) lo hi = ret (.lst (cutD xs lo hi)) := rfl
theorem slD_tup (xs : List D) (lo hi : Option Int) : slD (.tup xs) lo hi = ret (.tup (cutD xs lo hi)) := rfl
theorem succ_cast (r : Nat) : ((r : Int) + 1) = ((r + 1 : Nat) : Int) := rfl
end PL

/-! Dicts with words as keys, and their pairs in order. -/
namespace PL
open PySem PySem.Spec L2
def keyS : Key → Str
  | .inr s => s
  | .inl _ => Str.ofString ""
def keysS (j : List (Key × D)) : List Str := j.map fun kv => keyS kv.1
/-- words for keys, none twice, values as told -/
def DI (v : D → Bool) (j : List (Key × D)) : Prop := (∀ kv ∈ j, ∃ s, kv.1 = .inr s ∧ wordB (.str s) = true ∧ v kv.2 = true) ∧ (j.map (·.1)).Nodup
theorem DI.nil {v : D → Bool} : DI v [] := ⟨fun _ h => (nomatch h), List.nodup_nil⟩
theorem setK1_keys (k : Key) (x : D) : ∀ j : List (Key × D), (setK1 k x j).map (·.1) = j.map (·.1)
  | [] => rfl
  | (a, y) :: r => by
    unfold setK1
    rw [List.map_cons, List.map_cons, setK1_keys k x r]
    split <;> simp [*]
theorem setK1_mem {k : Key} {x : D} : ∀ {j : List (Key × D)} {kv : Key × D}, kv ∈ setK1 k x j → kv ∈ j ∨ (kv = (k, x) ∧ k ∈ j.map (·.1))
  | [], _, h => nomatch h
  | (a, y) :: r, kv, h => by
    unfold setK1 at h
    rcases List.mem_cons.mp h with h | h
    · by_cases e : a = k
      · rw [if_pos e] at h
        exact .inr ⟨by rw [h, e], by rw [List.map_cons, e]; exact List.mem_cons_self⟩
      · rw [if_neg e] at h
        exact .inl (h ▸ List.mem_cons_self)
    · rcases setK1_mem h with h | ⟨h, h2⟩
      · exact .inl (List.mem_cons_of_mem _ h)
      · exact .inr ⟨h, by rw [List.map_cons]; exact List.mem_cons_of_mem _ h2⟩
theorem putD_has {j : List (Key × D)} {k : Key} {x : D} (h : k ∈ j.map (·.1)) : putD j k x = setK1 k x j := by
  unfold putD
  rw [if_pos, setK1_eq]
  obtain ⟨kv, h1, h2⟩ := List.mem_map.mp h
  exact List.any_eq_true.mpr ⟨kv, h1, decide_eq_true h2⟩
theorem putD_not {j : List (Key × D)} {k : Key} {x : D} (h : k ∉ j.map (·.1)) : putD j k x = j ++ [(k, x)] := by
  unfold putD
  rw [if_neg]
  intro q
  obtain ⟨kv, h1, h2⟩ := List.any_eq_true.mp q
  exact h (List.mem_map.mpr ⟨kv, h1, of_decide_eq_true h2⟩)
theorem putD_len (j : List (Key × D)) (k : Key) (x : D) : (putD j k x).length ≤ j.length + 1 := by
  by_cases h : k ∈ j.map (·.1)
  · rw [putD_has h]
    have := congrArg List.length (setK1_keys k x j)
    simp only [List.length_map] at this
    omega
  · rw [putD_not h, List.length_append]
    exact Nat.le_refl _
theorem DI.put {v : D → Bool} {j : List (Key × D)} {s : Str} {x : D} (h : DI v j) (hs : wordB (.str s) = true) (hx : v x = true) : DI v (putD j (.inr s) x) := by
  by_cases q : Sum.inr s ∈ j.map (·.1)
  · rw [putD_has q]
    refine ⟨fun kv hk => ?_, by rw [setK1_keys]; exact h.2⟩
    rcases setK1_mem hk with hk | ⟨rfl, _⟩
    · exact h.1 kv hk
    · exact ⟨s, rfl, hs, hx⟩
  · rw [putD_not q]
    refine ⟨fun kv hk => ?_, ?_⟩
    · rcases List.mem_append.mp hk with hk | hk
      · exact h.1 kv hk
      · rw [List.mem_singleton.mp hk]
        exact ⟨s, rfl, hs, hx⟩
    · rw [List.map_append]
      refine List.nodup_append.mpr ⟨h.2, by simp, fun a ha b hb => ?_⟩
      intro e
      simp at hb
      rw [e, hb] at ha
      exact q ha
theorem DI.mono {v w : D → Bool} {j : List (Key × D)} (h : DI v j) (hw : ∀ x, v x = true → w x = true) : DI w j :=
  ⟨fun kv hk => by obtain ⟨s, a, b, c⟩ := h.1 kv hk; exact ⟨s, a, b, hw _ c⟩, h.2⟩
theorem word_len {s : Str} (h : wordB (.str s) = true) : s.length ≤ 8 := by
  simp only [wordB, Bool.and_eq_true, decide_eq_true_eq] at h
  omega
theorem putW_ok {j : List (Key × D)} {s : Str} {x : D} (h : j.length < 1000000) : putW j (.str s) x = ret (putD j (.inr s) x) := grd_pos (by rw [sizeLine_eq]; omega) _
theorem keysD_ok {v : D → Bool} {j : List (Key × D)} (h : DI v j) (hl : j.length ≤ 1000000) : keysD (.dic j) = ret ((keysS j).map .str) := by
  have e : (j.map fun kv => keyV kv.1) = (keysS j).map .str := by
    unfold keysS
    rw [List.map_map]
    refine List.map_congr_left fun kv hk => ?_
    obtain ⟨s, a, _⟩ := h.1 kv hk
    simp [a, keyV, keyS]
  show grd _ (ret (j.map fun kv => keyV kv.1)) = _
  rw [e]
  refine grd_pos ⟨by rw [sizeLine_eq]; omega, fun kv hk t et => ?_⟩ _
  obtain ⟨s, a, b, _⟩ := h.1 kv hk
  rw [a] at et
  cases et
  have := word_len b
  rw [sizeLine_eq]
  omega
theorem txts_strs : ∀ ss : List Str, txts (ss.map .str) = some ss
  | [] => rfl
  | s :: ss => by
    show (txts (ss.map _)).map _ = _
    rw [txts_strs ss]
    rfl
theorem sortW_ok {ss : List Str} (h : ss.length < 64) : sortW (.lst (ss.map .str)) = ret ((sortT ss).map .str) := by
  show (match txts (ss.map .str) with | some ss => grd (ss.length < 64) (ret ((sortT ss).map .str)) | none => stuck : W (List D)) = _
  rw [txts_strs]
  exact grd_pos h _
theorem keysS_nodup {v : D → Bool} {j : List (Key × D)} (h : DI v j) : (keysS j).Nodup := by
  have e : (keysS j).map Sum.inr = j.map (fun kv => kv.1) := by
    unfold keysS
    rw [List.map_map]
    refine List.map_congr_left fun kv hk => ?_
    obtain ⟨s, a, _⟩ := h.1 kv hk
    simp [a, keyS]
  have q := h.2
  rw [← e] at q
  exact List.Pairwise.imp (fun {a b} h e => h (congrArg Sum.inr e)) (List.pairwise_map.mp q)
theorem keysS_word {v : D → Bool} {j : List (Key × D)} (h : DI v j) {s : Str} (hs : s ∈ keysS j) : wordB (.str s) = true := by
  obtain ⟨kv, hk, rfl⟩ := List.mem_map.mp hs
  obtain ⟨s, a, b, _⟩ := h.1 kv hk
  rw [a]
  exact b
theorem valD_some {v : D → Bool} {j : List (Key × D)} (h : DI v j) {s : Str} (hs : s ∈ keysS j) : ∃ x, valD j (.inr s) = some x ∧ v x = true := by
  have q : (j.find? fun kv => decide (kv.1 = .inr s)).isSome := by
    rw [List.find?_isSome]
    obtain ⟨kv, hk, e⟩ := List.mem_map.mp hs
    obtain ⟨t, a, _⟩ := h.1 kv hk
    refine ⟨kv, hk, decide_eq_true ?_⟩
    rw [a] at e ⊢
    exact congrArg Sum.inr e
  obtain ⟨kv, e⟩ := Option.isSome_iff_exists.mp q
  refine ⟨kv.2, by unfold valD; rw [e]; rfl, ?_⟩
  obtain ⟨_, _, _, c⟩ := h.1 kv (List.mem_of_find?_eq_some e)
  exact c
def valS (j : List (Key × D)) (s : Str) : D := (valD j (.inr s)).getD .non
theorem dgetD_ok {v : D → Bool} {j : List (Key × D)} (h : DI v j) {s : Str} (hs : s ∈ keysS j) : dgetD (.dic j) (.str s) = ret (valS j s) := by
  obtain ⟨x, e, _⟩ := valD_some h hs
  show bnd (ret (Sum.inr s)) (fun kk => optW (valD j kk)) = _
  rw [bnd_ret, e]
  unfold valS
  rw [e]
  rfl
/-- a dict's pairs, by their keys in order -/
def pairsOf (j : List (Key × D)) : List D := (sortT (keysS j)).map fun s => .tup [.str s, valS j s]
theorem sortT_perm (ss : List Str) : (sortT ss).Perm ss := List.mergeSort_perm ss leS
theorem sortT_mem {ss : List Str} {s : Str} : s ∈ sortT ss ↔ s ∈ ss := (sortT_perm ss).mem_iff
theorem sortT_len (ss : List Str) : (sortT ss).length = ss.length := (sortT_perm ss).length_eq
theorem sortT_pw (ss : List Str) : (sortT ss).Pairwise fun a b => leS a b = true := List.pairwise_mergeSort leS_trans leS_total ss
theorem lt_of_le_ne {a b : Str} (h : leS a b = true) (hn : a ≠ b) : ltQ a b = true := by
  unfold ltQ
  refine decide_eq_true ?_
  rw [leS_iff] at h
  refine Classical.byContradiction fun q => hn (leS_anti a b ?_ ?_)
  · rw [leS_iff]; exact h
  · rw [leS_iff]; exact q
theorem sortT_lt {ss : List Str} (h : ss.Nodup) : (sortT ss).Pairwise fun a b => ltQ a b = true := by
  have h1 := sortT_pw ss
  have h2 : (sortT ss).Pairwise (· ≠ ·) := (sortT_perm ss).nodup_iff.mpr h
  exact (List.Pairwise.and h1 h2).imp fun ⟨a, b⟩ => lt_of_le_ne a b
theorem nil_lt {s : Str} (h : wordB (.str s) = true) : ltQ (Str.ofString "") s = true := by
  simp only [wordB, Bool.and_eq_true, decide_eq_true_eq] at h
  unfold ltQ
  refine decide_eq_true ?_
  have e : (Str.ofString "").cps.toList = [] := by decide +kernel
  rw [e]
  have hl : s.length = s.cps.toList.length := by rw [Array.length_toList]; rfl
  cases q : s.cps.toList with
  | nil => rw [q] at hl; simp at hl; omega
  | cons a l => exact List.nil_lt_cons a l
theorem asc_map {v : D → Bool} {f : Str → D} : ∀ {ss : List Str} {last : Str}, (∀ s ∈ ss, wordB (.str s) = true ∧ v (f s) = true) → (∀ s ∈ ss, ltQ last s = true) → (ss.Pairwise fun a b => ltQ a b = true) → ascB v last (ss.map fun s => .tup [.str s, f s]) = true
  | [], _, _, _, _ => rfl
  | s :: ss, last, h, h2, h3 => by
    rw [List.map_cons, ascB_some (p := (s, f s)) rfl]
    have q := h s List.mem_cons_self
    have h4 := List.pairwise_cons.mp h3
    rw [q.1, q.2, h2 s List.mem_cons_self, asc_map (fun t ht => h t (List.mem_cons_of_mem _ ht)) h4.1 h4.2]
    rfl
theorem pairsOf_asc {v : D → Bool} {j : List (Key × D)} (h : DI v j) : ascB v (Str.ofString "") (pairsOf j) = true := by
  refine asc_map (fun s hs => ?_) (fun s hs => nil_lt (keysS_word h (sortT_mem.mp hs))) (sortT_lt (keysS_nodup h))
  obtain ⟨x, e, hx⟩ := valD_some h (sortT_mem.mp hs)
  refine ⟨keysS_word h (sortT_mem.mp hs), ?_⟩
  unfold valS
  rw [e]
  exact hx
/-- tuple([(key, d[key]) for key in sorted(list(d))]) -/
theorem pairs_ret {v : D → Bool} {j : List (Key × D)} (h : DI v j) (hl : j.length < 64) :
    (bnd (keysD (.dic j)) fun xs => bnd (sortW (.lst xs)) fun xs1 => bnd (mapP (fun label1 => bnd (dgetD (.dic j) label1) fun y2 => ret (.tup [label1, y2])) xs1) fun xs2 => ret (.tup xs2) : W D) = ret (.tup (pairsOf j)) := by
  have hk : (keysS j).length < 64 := by unfold keysS; rw [List.length_map]; exact hl
  rw [keysD_ok h (by omega), bnd_ret, sortW_ok hk, bnd_ret, mapP_ret (g := fun k => match k with | .str s => .tup [.str s, valS j s] | _ => .non) (by rw [List.length_map, sortT_len]; omega) (fun x hx => by
    obtain ⟨s, hs, rfl⟩ := List.mem_map.mp hx
    rw [dgetD_ok h (sortT_mem.mp hs)]
    rfl), bnd_ret, List.map_map]
  rfl
/-- sizes of stores and maps -/
theorem asc_sz {v : D → Bool} (hv : ∀ x, v x = true → Sz 0 0 x) : ∀ {xs : List D} {last : Str}, ascB v last xs = true → Parts 1 xs ∧ bulks xs ≤ 11 * xs.length
  | [], _, _ => ⟨Parts.nil, by rw [bulks_nil]; exact Nat.zero_le _⟩
  | x :: xs, last, h => by
    cases q : pairK x with
    | none => rw [ascB_none q] at h; cases h
    | some p =>
      have ep := pairK_some q
      rw [ascB_some q] at h
      simp only [Bool.and_eq_true] at h
      obtain ⟨h1, h2⟩ := asc_sz hv h.2
      have w : Sz 8 0 (.str p.1) := IsW.ok ⟨p.1, rfl, h.1.1.1⟩
      have z := hv p.2 h.1.2
      have b : bulks [.str p.1, p.2] ≤ 10 := by
        rw [bulks_cons, bulks_cons, bulks_nil]
        have := w.2.1
        have := z.2.1
        omega
      have t : Sz 10 1 (.tup [.str p.1, p.2]) := .tup (.cons w.pt (.cons z.pt .nil)) b
      subst ep
      refine ⟨.cons t.pt h1, ?_⟩
      rw [bulks_cons, List.length_cons, Nat.mul_add]
      have := t.2.1
      omega
theorem numB_sz (x : D) (h : numB x = true) : Sz 0 0 x := by
  cases x with
  | int i => exact IsN.ok ⟨i, rfl, h⟩
  | _ => cases h
theorem pairsOf_len (j : List (Key × D)) : (pairsOf j).length = j.length := by
  unfold pairsOf keysS
  rw [List.length_map, sortT_len, List.length_map]
end PL

/-! {**a, **b} and dict(tuple of pairs), on the machine. -/
namespace PL
open PySem PySem.Spec L2
open Sem (wp)
section
variable {prog : Program} {w : World} {K : Type} [DecidableEq K] {knd : KeyKind prog w K} {A : Around} {E : Value → Shared → Prop} {s : Shared}
theorem dictPut_pairs {d : Addr} {kvs : List (K × Value)} {k : K} {key v : Value} {Q : Unit → Shared → Prop} (hkey : knd.is k key = true) (hm : s.heap.DictOf knd d kvs)
    (hQ : ∀ h', h'.DictOf knd d (stored kvs k v) → Heap.SameBut d s.heap h' → Q () { s with heap := h' }) (hsz : kvs.length ≤ sizeLine) :
    wpAny (model prog w) A (dictPut d (knd.hash k) key v) Q E s := by
  obtain ⟨o, es, ep, ho, hc, hd, hk, hp, hn⟩ := hm
  have hes : es.size ≤ sizeLine := by
    have e1 := hp.length
    have e2 : es.toList.length = es.size := by simp
    omega
  unfold dictPut
  refine wpAny_bind (wpAny_dictFind_of hkey ho hd hk ?_)
  have hidx : (es.findIdx? fun e => knd.is k e.key) = kvs.findIdx? fun kv => decide (kv.1 = k) := by
    rw [← hp.findIdx k]; obtain ⟨l⟩ := es; simp
  cases hi : es.findIdx? fun e => knd.is k e.key with
  | some i =>
    refine wpAny_updateDict ho hd (hQ _ ⟨_, _, ep, Heap.get?_update_self _ ho (Obj.isFreed_of_dict (Obj.data_mapDict hd _)),
      hc.mapDict _, Obj.data_mapDict hd _, hk.modify _ _, ?_, ?_⟩ (Heap.SameBut.update ..))
    · rw [stored, if_pos (any_of_findIdx_some (hidx ▸ hi))]
      have hl : (es.toList.findIdx? fun e => knd.is k e.key) = some i := by rw [← hi]; obtain ⟨l⟩ := es; simp
      have := hp.modify hn hl v
      obtain ⟨l⟩ := es
      simpa using this
    · rw [stored, if_pos (any_of_findIdx_some (hidx ▸ hi)), keys_map_store]; exact hn
  | none =>
    have hnot : k ∉ kvs.map (·.1) := not_mem_of_findIdx_none (hidx ▸ hi)
    have hany : ¬ (kvs.any fun kv => decide (kv.1 = k)) = true := by
      rw [List.any_eq_true]; rintro ⟨kv, hkv, he⟩
      exact hnot (List.mem_map.mpr ⟨kv, hkv, of_decide_eq_true he⟩)
    refine wpAny_updateDictKeys (hz := hes) ho hd (hQ _ ⟨_, _, ep + 1, Heap.get?_update_self _ ho (Obj.isFreed_of_dict (Obj.data_mapDictKeys hd _)),
      hc.mapDictKeys _, Obj.data_mapDictKeys hd _, hk.push hkey _, ?_, ?_⟩ (Heap.SameBut.update ..))
    · rw [stored, if_neg hany]
      have := hp.append hkey (knd.hash k) v
      obtain ⟨l⟩ := es
      simpa using this
    · rw [stored, if_neg hany, List.map_append, List.nodup_append]
      refine ⟨hn, by simp, ?_⟩
      intro a ha b hb
      simp only [List.map_cons, List.map_nil, List.mem_singleton] at hb
      subst hb
      exact fun e => hnot (e ▸ ha)
theorem mergeMapping_pairs {d o : Addr} {kvs more : List (K × Value)} {Q : Unit → Shared → Prop} (hdo : d ≠ o) (hoS : (o == sysModules) = false)
    (hd : s.heap.DictOf knd d kvs) (ho : s.heap.DictOf knd o more)
    (hQ : ∀ h', h'.DictOf knd d (merged kvs more) → Heap.SameBut d s.heap h' → Q () { s with heap := h' })
    (hsz : kvs.length + more.length ≤ sizeLine) :
    wpAny (model prog w) A (mergeMapping d (.ref o) false) Q E s := by
  obtain ⟨od, esd, epd, hod, hcd, hdd, hkd, hpd, hnd⟩ := id hd
  obtain ⟨oo, eso, epo, hoo, hco, hdo', hko, hpo, hno⟩ := id ho
  have hlen : more.length = eso.size := by rw [← hpo.length]; simp
  have loop : wpAny (model prog w) A (do
      let l0 ← dictEntries o
      let epoch ← dictEpoch o
      forIn (List.range l0.size) PUnit.unit fun i (_ : PUnit) => (do
        let l ← dictEntries o
        match l[i]? with
          | some e => do
            holding [e.key, e.val] (dictPut d e.hash e.key e.val)
            let ep ← dictEpoch o
            if (ep != epoch) = true then do
                (unsupported "dict.changed-during-merge" : Sem PUnit)
                pure (ForInStep.yield PUnit.unit)
              else pure (ForInStep.yield PUnit.unit)
          | _ => do
            (unsupported "dict.changed-during-merge" : Sem PUnit)
            pure (ForInStep.yield PUnit.unit) : Sem (ForInStep PUnit))
      pure ()) Q E s := by
    refine wpAny_bind (wpAny_dictEntries hoo hdo' ?_)
    refine wpAny_bind (wpAny_dictEpoch hoo hdo' ?_)
    refine wpAny_bind ?_
    rw [List.range_eq_range']
    refine wpAny_forIn_list _
      (fun rest _ s' => ∃ h' i, s' = { s with heap := h' } ∧ rest = List.range' i (eso.size - i) ∧ i ≤ eso.size ∧ h'.DictOf knd d (merged kvs (more.take i)) ∧ h'.get? o = some oo ∧ Heap.SameBut d s.heap h')
      _ ?_ ?_ _ _ ⟨s.heap, 0, rfl, by simp, Nat.zero_le _, by simpa [merged] using hd, hoo, Heap.SameBut.refl _ _⟩
    · rintro x rest b s' ⟨h', i, rfl, hr, hi, hd', hoo', hs'⟩
      have hlt : i < eso.size := by
        rcases Nat.lt_or_ge i eso.size with h | h
        · exact h
        · rw [Nat.sub_eq_zero_of_le h] at hr; simp at hr
      obtain ⟨rfl, hrest⟩ : x = i ∧ rest = List.range' (i + 1) (eso.size - (i + 1)) := by
        have e : eso.size - i = (eso.size - (i + 1)) + 1 := by omega
        rw [e, List.range'_succ] at hr
        injection hr with h1 h2
        exact ⟨h1, h2⟩
      refine wpAny_bind (wpAny_dictEntries hoo' hdo' ?_)
      rw [Array.getElem?_eq_getElem hlt]
      obtain ⟨kv, hkv⟩ : ∃ kv, more[x]? = some kv := ⟨more[x]'(by rw [hlen]; exact hlt), List.getElem?_eq_getElem _⟩
      obtain ⟨k, v⟩ := kv
      obtain ⟨hkey, hval⟩ := hpo.get? (e := eso[x]) (by simp [hlt]) hkv
      obtain ⟨k', hkey', hhash⟩ := hko eso[x] (Array.getElem_mem hlt)
      obtain rfl : k' = k := knd.inj _ _ _ hkey' hkey
      show wpAny _ _ (holding [eso[x].key, eso[x].val] (dictPut d eso[x].hash eso[x].key eso[x].val) >>= _) _ _ _
      rw [hhash, hval]
      have hmx : (merged kvs (more.take x)).length ≤ sizeLine := by
        have e1 := merged_length_le kvs (more.take x)
        have e2 : (more.take x).length ≤ more.length := by rw [List.length_take]; omega
        omega
      refine wpAny_bind (wpAny_holding (dictPut_pairs (hsz := hmx) hkey hd' fun h'' hd'' hs'' => ?_))
      have hoo'' : h''.get? o = some oo := (hs''.2 o (Ne.symm hdo)).trans hoo'
      refine wpAny_bind (wpAny_dictEpoch hoo'' hdo' ?_)
      rw [if_neg (by simp)]
      exact wpAny_pure ⟨h'', x + 1, rfl, hrest, hlt, by rw [merged_take_succ kvs more x (k', v) hkv]; exact hd'', hoo'', hs'.trans hs''⟩
    · rintro b s' ⟨h', i, rfl, hr, hi, hd', hoo', hs'⟩
      have hin : i = eso.size := by
        rcases Nat.lt_or_ge i eso.size with h | h
        · have e : eso.size - i = (eso.size - (i + 1)) + 1 := by omega
          rw [e, List.range'_succ] at hr; exact nomatch hr
        · exact Nat.le_antisymm hi h
      refine wpAny_pure (hQ h' ?_ hs')
      rw [hin, ← hlen, List.take_length] at hd'; exact hd'
  unfold mergeMapping
  refine wpAny_bind (wpAny_isInstance ho.typeIs isSubtype_dict_dict ?_)
  rw [if_pos rfl]
  refine wpAny_bind (wpAny_specialOf ho.typeIs F.slot_dict_iter.lookup ?_)
  refine wpAny_bind (wpAny_pure ?_)
  simp only [beq_self_eq_true]
  rw [if_neg (by rw [hoS]; exact Bool.false_ne_true)]
  refine wpAny_bind (wpAny_dictEntries hod hdd ?_)
  split
  · refine wpAny_bind (wpAny_dictEntries hoo hdo' ?_)
    refine wpAny_bind ?_
    rw [← Array.forIn_toList]
    refine wpAny_forIn_list _ (fun rest _ s' => s' = s ∧ ∀ e ∈ rest, e ∈ eso.toList) _ ?_ ?_ _ _ ⟨rfl, fun _ h => h⟩
    · rintro e rest b s' ⟨rfl, hr⟩
      obtain ⟨k', hkey', _⟩ := hko e (by simpa using hr e List.mem_cons_self)
      have nb := knd.byValue k' _ hkey'
      cases q : e.key with
      | ref a => rw [q] at nb; cases nb
      | _ => exact wpAny_pure ⟨rfl, fun e h => hr e (List.mem_cons_of_mem _ h)⟩
    · rintro b s' ⟨rfl, _⟩
      exact loop
  · exact loop
end
end PL

/-! {**a, **b} over the hand layer's heap. -/
namespace PL
open PySem PySem.Spec L2
section
variable {X : Cx}
def tOver (t1 t2 : TE) : TE := fun σ H Q => ∀ p, H p = none → t1 σ (upd H p (.dK [])) fun x1 H1 => ∃ a1 k1, x1 = V.ref a1 ∧ Rd H1 a1 (.dK k1) ∧ a1 ≠ p ∧ H1 p = some (.dK []) ∧
  t2 σ (upd H1 p (.dK (mergeK [] k1))) fun x2 H2 => ∃ a2 k2, x2 = V.ref a2 ∧ Rd H2 a2 (.dK k2) ∧ a2 ≠ p ∧ H2 p = some (.dK (mergeK [] k1)) ∧ (mergeK [] k1).length + k2.length ≤ sizeLine ∧
  Q (.ref p) (upd H2 p (.dK (mergeK (mergeK [] k1) k2)))
theorem merge_at {pins : List (Addr × Obj)} {σ : L2.St} {H : Hp} {s : Shared} {A : Around} {E : Value → Shared → Prop} {p a : Addr} {k0 k1 : List (Key × V)} {Q : Unit → Shared → Prop} (I : Inv X pins σ H s) (e : H p = some (.dK k0)) (r : Rd H a (.dK k1)) (ne : a ≠ p) (hz : k0.length + k1.length ≤ sizeLine)
    (h : ∀ s', Inv X pins σ (upd H p (.dK (mergeK k0 k1))) s' → Q () s') : wpAny (model X.prog X.w) A (mergeMapping p (.ref a) false) Q E s := by
  obtain ⟨_, hp, vs0, r0, d0⟩ := dk_of I.hok e
  obtain ⟨_, ha, vs1, r1, d1⟩ := dk_rd I.hok r
  refine mergeMapping_pairs (knd := mixKind X.prog X.w) (Ne.symm ne) ha d0 d1 (fun h' dd hs => ?_) (by rw [← r0.length, ← r1.length]; exact hz)
  have hl : (mergeK k0 k1).length ≤ sizeLine := Nat.le_trans (length_mergeK k1 k0) hz
  have he : ∃ q, h'.get? p = some q := let ⟨q, _, _, hq, _⟩ := dd; ⟨q, hq⟩
  exact h { s with heap := h' } (d_write (t' := s.toks) I (by rw [e]; exact True.intro) hs he (dk_new hl hp (r1.merge r0) dd))
theorem pe_over {e1 e2 : Expr} {pos : Pos} {t1 t2 : TE} (h1 : PE X e1 t1) (h2 : PE X e2 t2) : PE X (.Dict [none, none] [e1, e2] pos) (tOver t1 t2) := by
  refine ⟨fun pins s σ H Q I q => ?_⟩
  have hn := I.hok.fresh (Nat.le_refl s.heap.objs.size)
  have I1 := I.laid (a := s.heap.objs.size) (o := .dK []) (h' := s.heap.push { cls := .type "dict", data := .dict #[] }) (t' := s.toks) (fun _ _ q => Heap.get?_push_of_some _ q) (Nat.le_refl _) (dk_empty s.heap I.big)
  have q1 := q _ hn
  rw [arm_eval_Dict]
  refine wpAny_bind (wpAny_standAt ?_)
  show wpAny _ _ (dictDisplay [(none, do let x ← eval e1 X.env; standAt pos; pure x), (none, do let x ← eval e2 X.env; standAt pos; pure x)]) _ _ _
  unfold dictDisplay
  simp only [List.forIn_cons, List.forIn_nil, List.isEmpty_nil, if_true]
  refine wpAny_bind ?_
  refine wpAny_bind ?_
  refine wpAny_bind (wpAny_pure ?_)
  refine wpAny_bind (wpAny_alloc ?_)
  refine wpAny_bind (wpAny_holding (wpAny_bind (thn (h1.run pins _ σ _ _ I1 q1) fun u1 s1 ⟨x1, H1, J1, rx1, a1, k1, ex1, rd1, ne1, e1, q2⟩ => wpAny_bind (wpAny_standAt (wpAny_pure ?_)))))
  subst ex1
  obtain rfl : u1 = Value.ref a1 := rx1
  have hz1 : ([] : List (Key × V)).length + k1.length ≤ sizeLine := by
    have := (dk_rd J1.hok rd1).1
    rw [List.length_nil]; omega
  refine wpAny_bind (wpAny_onRaise (wpAny_tryCatch (wpAny_onRaise (wpAny_holding (merge_at J1 e1 rd1 ne1 hz1 fun s2 J2 => ?_)))))
  refine wpAny_pure ?_
  dsimp only
  refine wpAny_bind ?_
  simp only [List.isEmpty_nil, if_true]
  refine wpAny_bind (wpAny_pure ?_)
  dsimp only
  refine wpAny_bind (wpAny_pure ?_)
  refine wpAny_bind (wpAny_holding (wpAny_bind (thn (h2.run pins _ σ _ _ J2 q2) fun u2 s3 ⟨x2, H3, J3, rx2, a2, k2, ex2, rd2, ne2, e3, hz2, q3⟩ => wpAny_bind (wpAny_standAt (wpAny_pure ?_)))))
  subst ex2
  obtain rfl : u2 = Value.ref a2 := rx2
  refine wpAny_bind (wpAny_onRaise (wpAny_tryCatch (wpAny_onRaise (wpAny_holding (merge_at J3 e3 rd2 ne2 hz2 fun s4 J4 => ?_)))))
  refine wpAny_pure ?_
  dsimp only
  refine wpAny_pure ?_
  simp only [List.isEmpty_nil, if_true]
  refine wpAny_bind (wpAny_pure ?_)
  dsimp only
  exact wpAny_pure ⟨.ref s.heap.objs.size, _, J4, rfl, q3⟩
end
end PL

/-! dict(..), d.get(..), {**a, **b}, lists made over a dict's keys. -/
namespace PL
open PySem PySem.Spec L2
/-! ### dict(tuple of pairs) -/
def PlainT (K : PySem.W.Frag) (H : Hp) (a : Addr) (xs : List V) : Prop := PlT H a xs ∨ WrT K a xs
section
variable {X : Cx} {pins : List (Addr × Obj)} {σ : L2.St} {H : Hp} {s : Shared}
theorem plainT_at {a : Addr} {xs : List V} (I : Inv X pins σ H s) (h : PlainT X.K H a xs) : ∃ (o : Obj) (n : Nat) (its : List Value), s.heap.get? a = some o ∧ o.cls = .type "tuple" ∧ o.dict = none ∧ o.data = .seq its.toArray n ∧ Vals xs its ∧ xs.length ≤ sizeLine := by
  rcases h with ⟨o, e, d⟩ | ⟨o, its, n, h1, h2, h3, h4, h5, h6⟩
  · obtain ⟨hg, z, its, r, ⟨o', ho, hc, n, hd⟩⟩ := I.hok a _ e
    rw [hg] at ho
    cases ho
    exact ⟨o, n, its, hg, hc, d, hd, r, z⟩
  · refine ⟨o, n, its.toList, I.kIn a o h1, h2, h3, by simpa using h4, h6, ?_⟩
    have := h6.length
    simp only [Array.length_toList] at this
    omega
theorem pairs_psv (I : Inv X pins σ H s) : ∀ {ps : List Addr} {kvs : List (Key × V)}, Paired (fun p kv => SqT X.K H p [kV kv.1, kv.2]) ps kvs →
    ∃ (psv : List (Value × Value)) (prs : List (Key × Value)), L2.KV kvs prs ∧ psv.length = ps.length ∧ prs.length = ps.length ∧ ∀ (j : Nat) (k v : Value), psv[j]? = some (k, v) → ∃ (b : Addr) (q : Key), ps[j]? = some b ∧ PairAt s.heap b k v ∧ prs[j]? = some (q, v) ∧ keyIs q k = true
  | _, _, .nil => ⟨[], [], .nil, rfl, rfl, fun j k v e => by simp at e⟩
  | _, _, .cons (a := p) (b := kv) h t => by
    obtain ⟨psv, prs, r, hl, hl2, hp⟩ := pairs_psv I t
    obtain ⟨its, rv, ht, _⟩ := I.tuple h
    obtain ⟨u, y, ei, ru, ry⟩ := vals2 rv
    subst ei
    refine ⟨(u, y) :: psv, (kv.1, y) :: prs, .cons ⟨rfl, ry⟩ r, by rw [List.length_cons, List.length_cons, hl], by rw [List.length_cons, List.length_cons, hl2], fun j k v e => ?_⟩
    cases j with
    | zero =>
      have e' : (u, y) = (k, v) := Option.some.inj e
      cases e'
      exact ⟨p, kv.1, rfl, .inl (show s.heap.IsTuple p #[u, y] from ht), rfl, kV_is (P := X.prog) (w := X.w) ru⟩
    | succ j =>
      obtain ⟨b, q, e1, e2, e3, e4⟩ := hp j k v (by simpa using e)
      exact ⟨b, q, by simpa using e1, e2, by simpa using e3, e4⟩
theorem call_dictTZ (hcalm : X.calm = true) : CallR X (.type "dict") (fun xs H Q => ∃ (a : Addr) (ps : List Addr) (kvs : List (Key × V)), xs = [.ref a] ∧ PlainT X.K H a (ps.map V.ref) ∧ Paired (fun p kv => SqT X.K H p [kV kv.1, kv.2]) ps kvs ∧
    ∀ p, H p = none → Q (.ref p) (upd H p (.dK (mergeK [] kvs)))) := by
  intro pins s σ H xs us Q I r q
  obtain ⟨a, ps, kvs, ex, hq, hp, q⟩ := q
  subst ex
  obtain ⟨u, eu, rx⟩ := vals1 r
  subst eu
  cases rx
  obtain ⟨o, n, its, ho, hc, hd, hdt, rv, hz⟩ := plainT_at I hq
  have ei := refs_at rv
  subst ei
  rw [List.length_map] at hz
  obtain ⟨psv, prs, rel, hl, hl2, hpr⟩ := pairs_psv I hp
  have P := PairArg.tuple (prog := X.prog) (w := X.w) a (ps.map Value.ref).toArray (fun j => (ps[j]?).getD 0) psv
  refine PySem.call_dict_pairs (knd := mixKind X.prog X.w) (kvs := prs) P (I.ok.hd hcalm) ⟨⟨o, n, ho, hc, hd, hdt⟩, by simp [hl], fun j k v e => ?_⟩ ⟨by rw [hl2, hl], fun i k v e => ?_⟩ (by rw [hl]; exact hz) fun h' tk hd' k => ?_
  · obtain ⟨b, q, e1, e2, _, _⟩ := hpr j k v e
    refine ⟨by simp [e1], ?_⟩
    show PairAt _ ((ps[j]?).getD 0) k v
    rw [e1]
    exact e2
  · obtain ⟨b, q, e1, e2, e3, e4⟩ := hpr i k v e
    exact ⟨q, e3, e4⟩
  · have hm : (s.heap.objs.size == sysModules) = false := beq_eq_false_iff_ne.mpr (Nat.ne_of_gt I.big)
    have hlen : (mergeK [] kvs).length ≤ sizeLine := by
      refine Nat.le_trans (length_mergeK kvs []) ?_
      rw [List.length_nil, Nat.zero_add, rel.length, hl2]
      exact hz
    exact ⟨.ref s.heap.objs.size, upd H s.heap.objs.size (.dK (mergeK [] kvs)), I.laid (t' := tk) (fun b o e => k b o (List.not_mem_nil) e) (Nat.le_refl _) (show ObjOk X.prog X.w _ _ _ (.dK (mergeK [] kvs)) from ⟨hlen, hm, merged [] prs, L2.KV.merge rel .nil, hd'⟩), rfl, q _ (I.hok.fresh (Nat.le_refl _))⟩
end
/-! ### pairs as data -/
def pairsL : List D → Option (List (Key × D))
  | [] => some []
  | x :: r => match x with
    | .tup [k, v] => match keyD k, pairsL r with
      | some kk, some l => some ((kk, v) :: l)
      | _, _ => none
    | _ => none
def mergeD (kvs more : List (Key × D)) : List (Key × D) := more.foldl (fun acc kv => putD acc kv.1 kv.2) kvs
def dictW : D → W (List (Key × D))
  | .lst xs => bnd (optW (pairsL xs)) fun l => ret (mergeD [] l)
  | .tup xs => bnd (optW (pairsL xs)) fun l => ret (mergeD [] l)
  | .dic kvs => ret kvs
  | _ => stuck
section
variable {K : PySem.W.Frag} {S : Addr → Prop} {H : Hp}
theorem RepK.merge : ∀ {more : List (Key × D)} {mws : List (Key × V)} {kvs : List (Key × D)} {kws : List (Key × V)}, RepK K S H kvs kws → RepK K S H more mws → RepK K S H (mergeD kvs more) (mergeK kws mws)
  | [], _, kvs, kws, h, q => by
    have e : _ = [] := q
    rw [e]
    exact h
  | (k, x) :: more, _, kvs, kws, h, q => by
    obtain ⟨v, ws, rfl, r, q⟩ := q
    show RepK K S H (mergeD (putD kvs k x) more) (mergeK (putK kws k v) ws)
    exact RepK.merge (RepK.put k h r) q
theorem reps_pairs : ∀ {xs : List D} {vs : List V} {kvs : List (Key × D)}, Reps K S H xs vs → pairsL xs = some kvs →
    ∃ (ps : List Addr) (kws : List (Key × V)), vs = ps.map V.ref ∧ Paired (fun p kv => SqT K H p [kV kv.1, kv.2]) ps kws ∧ RepK K S H kvs kws
  | [], _, kvs, h, e => by
    have e0 : _ = [] := h
    rw [e0]
    cases e
    exact ⟨[], [], rfl, .nil, rfl⟩
  | x :: xs, _, kvs, h, e => by
    obtain ⟨v, ws, rfl, r, q⟩ := h
    match x, e, r with
    | .tup [k, y], e, r =>
      unfold pairsL at e
      simp only at e
      cases ek : keyD k with
      | none => rw [ek] at e; cases e
      | some kk =>
        cases ep : pairsL xs with
        | none => rw [ek, ep] at e; cases e
        | some l =>
          rw [ek, ep] at e
          cases e
          obtain ⟨ps, kws, e1, e2, e3⟩ := reps_pairs q ep
          obtain ⟨p, vs2, rfl, r1, _, q1⟩ := r
          obtain ⟨v1, w1, rfl, rk, q2⟩ := q1
          obtain ⟨v2, w2, rfl, ry, q3⟩ := q2
          have q3 : w2 = [] := q3
          subst q3
          obtain rfl := keyD_rep ek rk
          exact ⟨p :: ps, (kk, v2) :: kws, by rw [e1]; rfl, .cons r1.sq e2, v2, kws, rfl, ry, e3⟩
end
section
variable {G : PenK} {X : Cx} {Wx : WX} {c : C} {σ : L2.St} {ρ : Env} {H : Hp} {n : Nt}
theorem GlK.new {P : List (Key × D) → Nt → Prop} {Q : VK} (h : GlK G X c σ ρ H P Q) {xs : List (Key × D)} {a : Addr} {vs : List (Key × V)} (p : P xs n) (I : SI G X.K c σ H ρ n) (hp : H a = none) (r : RepK X.K c.S H xs vs) : Q (.ref a) (upd H a (.dK vs)) := by
  obtain ⟨I2, g2, f⟩ := SI.bare (o := .dK vs) I hp
  exact h xs n a vs c.S _ p g2 I2 upd_same (RepK.grow g2 _ _ r) f
/-- dict(e) -/
theorem k_dict {p pos : Pos} {e : Expr} {g : Env → W D} (hc : X.calm = true) (hm : X.mg "dict" = none) (h : E G X Wx e g) (hg : Gl X "dict" := by rfl) (he : starEach [e] X.env = (false, eval e X.env) :: starEach [] X.env := by rfl) (hv : bootBuiltins "dict" = some (.type "dict") := by first | exact PyProof.Rows.boot_dict | rfl) (hpl : (backTo pos (starEach [] X.env)).any (·.1) = false := by rfl) (hdb : (("dict" : Str) == ("__debug__" : Str)) = false := by decide) :
    EK G X Wx (.Call (.Name "dict" p) [e] [] pos) (fun ρ => bnd (g ρ) dictW) :=
  weakE (pe_callTy ((call_dictP hc).or ((call_dictTZ hc).or call_dictD)) hg hm hv (a_cons h a_nil he) (by decide) hdb he hpl) fun σ H Q ⟨c, ρ, n, P, PX, I, q, hg, hx⟩ => tAr.bnd (f := fun ds => match ds with | [d] => dictW d | _ => stuck) I q hx fun ds k vs S' H' p g I' hx' rs => by
    have hg : GlK G X (c.to S') σ ρ H' P Q := fun xs k a vs S2 H2 p2 g2 I2 e r f => hg xs k a vs S2 H2 p2 (g.trans g2) I2 e r f
    cases ds with
    | nil => exact p.elim
    | cons d ds =>
      cases ds with
      | cons _ _ => exact p.elim
      | nil =>
        obtain ⟨u, rfl, r1⟩ := rs.one_inv
        cases d with
        | lst xs =>
          obtain ⟨a, us, rfl, r2, _, q1⟩ := r1
          obtain ⟨l, el, p⟩ := optW_inv (show optW (pairsL xs) k (fun l k => P (mergeD [] l) k) PX from p)
          obtain ⟨ps, kws, rfl, pr, rk⟩ := reps_pairs q1 el
          exact .inl ⟨a, ps, kws, rfl, r2.sq, pr, fun b hb => hg.new p I' hb (RepK.merge (kvs := []) (kws := []) rfl rk)⟩
        | tup xs =>
          obtain ⟨a, us, rfl, r2, _, q1⟩ := r1
          obtain ⟨l, el, p⟩ := optW_inv (show optW (pairsL xs) k (fun l k => P (mergeD [] l) k) PX from p)
          obtain ⟨ps, kws, rfl, pr, rk⟩ := reps_pairs q1 el
          exact .inr (.inl ⟨a, ps, kws, rfl, r2.elim (fun z => .inl z.2) .inr, pr, fun b hb => hg.new p I' hb (RepK.merge (kvs := []) (kws := []) rfl rk)⟩)
        | dic kvs =>
          obtain ⟨a, kws, rfl, ⟨_, rd⟩, rk⟩ := r1
          exact .inr (.inr ⟨a, kws, rfl, rd, fun b hb => hg.new p I' hb rk⟩)
        | _ => exact False.elim p
end
end PL

/-! d.get(k), {**a, **b}, [.. for key in d ..]. -/
namespace PL
open PySem PySem.Spec L2
section
variable {G : PenK} {X : Cx} {Wx : WX}
/-! ### d.get(k) -/
def dicW : D → W (List (Key × D))
  | .dic kvs => ret kvs
  | _ => stuck
def getW (kvs : List (Key × D)) (k : D) : W D := bnd (optW (keyD k)) fun kk => ret ((valD kvs kk).getD .non)
theorem e_get {o e : Expr} {apos cpos : Pos} {go ge : Env → W D} (hu : X.A.units + 1 < cLine) (ho : E G X Wx o go) (he : E G X Wx e ge)
    (hb : attributeBase o "get" X.env (eval o X.env) = eval o X.env := by rfl)
    (hf : ((backTo cpos (starEach [e] X.env)).all (fun x => !x.1) && (backToKw cpos (keywordEach [] X.env)).all (fun x => x.1.isSome)
      && decide (([e] : List Expr).length + ([] : List Keyword).length + (if ([] : List Keyword).isEmpty then 0 else 1) < 30)) = true := by rfl)
    (hl : (apos.endLine == cpos.line) = true := by rfl) (ht : backTo cpos (starEach [e] X.env) = [(false, eval e X.env)] := by rfl) :
    E G X Wx (.Call (.Attribute o "get" apos) [e] [] cpos) (fun ρ => bnd (go ρ) fun x => bnd (dicW x) fun kvs => bnd (ge ρ) fun y => getW kvs y) :=
  weakE (pe_dget1 hu ho he ⟨hb, hf, hl, ht⟩) fun σ H Q ⟨c, ρ, n, P, PX, I, q, hg, hx⟩ => tE.bnd I q hx fun d k u S' H' p g I' hx' r => by
    cases d with
    | dic kvs =>
      obtain ⟨a, kws, rfl, ⟨hS, rd⟩, rk⟩ := r
      refine ⟨a, rfl, .inl ⟨kws, rd⟩, tE.bnd I' p hx' fun d2 k2 u2 S2 H2 p2 g2 I2 hx2 r2 => ?_⟩
      obtain ⟨kk, ek, p2⟩ := optW_inv (show optW (keyD d2) k2 (fun kk k => P ((valD kvs kk).getD .non) k) PX from p2)
      obtain rfl := keyD_rep ek r2
      have rd2 := Rd.to (g2.eq a hS) rd
      have hg2 := hg.grow (g.trans g2)
      rcases RepK.find kk (RepK.grow g2 _ _ rk) with ⟨z1, z2⟩ | ⟨x, v, z1, z2, r3⟩
      · rw [z1] at p2
        exact ⟨none, .inl ⟨kws, kk, rd2, rfl, z2.symm⟩, hg2.at (d := .non) p2 I2 rfl⟩
      · rw [z1] at p2
        exact ⟨some v, .inl ⟨kws, kk, rd2, rfl, z2.symm⟩, hg2.at (d := x) p2 I2 r3⟩
    | _ => exact False.elim p
/-! ### dicts that are only read or made anew: nothing else is laid or changed -/
def tFd (G : PenK) (X : Cx) (Wx : WX) (g : Env → W (List (Key × D))) : TE := fun σ H Q => ∃ c ρ n P PX, SI G X.K c σ H ρ n ∧ g ρ n P PX ∧
  (∀ xs k a vs H', P xs k → (∀ b o, H b = some o → H' b = some o) → SI G X.K c σ H' ρ k → Rd H' a (.dK vs) → RepK X.K c.S H' xs vs → (c.S a ∨ H a = none) → Q (.ref a) H') ∧ OKx G X Wx c σ ρ H PX
def EF (G : PenK) (X : Cx) (Wx : WX) (e : Expr) (g : Env → W (List (Key × D))) : Prop := PE X e (tFd G X Wx g)
theorem nm_inv {ρ : Env} {i : Nat} {n : Nt} {α : Type} {f : D → W α} {P : α → Nt → Prop} {PX : Exc → Nt → Prop} (h : bnd (nm ρ i) f n P PX) : ∃ d, ρ[i]? = some (.d d) ∧ f d n P PX := by
  unfold nm at h
  cases e : ρ[i]? with
  | none => rw [e] at h; exact False.elim h
  | some sv =>
    rw [e] at h
    cases sv with
    | d x => exact ⟨x, rfl, h⟩
    | _ => exact False.elim h
theorem f_nm {x : Str} {px : Pos} (i : Nat) (hN : X.N[i]? = some x := by rfl) (hv : Vis X.env.scope x := by first | exact Or.inl rfl | exact Or.inr (Or.inl rfl) | exact Or.inr (Or.inr rfl)) (hd : (x == ("__debug__" : Str)) = false := by decide)
    (hcd : (x == ("__classdict__" : Str)) = false := by decide) : EF G X Wx (.Name x px) (fun ρ => bnd (nm ρ i) dicW) :=
  weakE (pe_var hN hv hd hcd) fun σ H Q ⟨c, ρ, n, P, PX, I, q, hg, hx⟩ => by
    obtain ⟨d, e, q⟩ := nm_inv (show bnd (nm ρ i) dicW n P PX from q)
    obtain ⟨v, e1, r⟩ := I.slots i _ e
    cases d with
    | dic kvs =>
      obtain ⟨a, kws, rfl, ⟨hS, rd⟩, rk⟩ := r
      exact ⟨.ref a, slot_some e1, hg kvs n a kws H q (fun _ _ e => e) I rd rk (.inl hS)⟩
    | _ => exact False.elim q
theorem f_dict {x : Str} {px p pos : Pos} (i : Nat) (hc : X.calm = true) (hm : X.mg "dict" = none) (hN : X.N[i]? = some x := by rfl) (hv : Vis X.env.scope x := by first | exact Or.inl rfl | exact Or.inr (Or.inl rfl) | exact Or.inr (Or.inr rfl)) (hd : (x == ("__debug__" : Str)) = false := by decide)
    (hcd : (x == ("__classdict__" : Str)) = false := by decide) (hg : Gl X "dict" := by rfl) (he : starEach [.Name x px] X.env = (false, eval (.Name x px) X.env) :: starEach [] X.env := by rfl) (hbv : bootBuiltins "dict" = some (.type "dict") := by first | exact PyProof.Rows.boot_dict | rfl) (hpl : (backTo pos (starEach [] X.env)).any (·.1) = false := by rfl) (hdb : (("dict" : Str) == ("__debug__" : Str)) = false := by decide) :
    EF G X Wx (.Call (.Name "dict" p) [.Name x px] [] pos) (fun ρ => bnd (nm ρ i) dictW) :=
  weakE (pe_callTy ((call_dictP hc).or ((call_dictTZ hc).or call_dictD)) hg hm hbv (pa_cons (pe_var hN hv hd hcd) pa_nil he) (by decide) hdb he hpl) fun σ H Q ⟨c, ρ, n, P, PX, I, q, hg, hx⟩ => by
    obtain ⟨d, e, q⟩ := nm_inv (show bnd (nm ρ i) dictW n P PX from q)
    obtain ⟨v, e1, r⟩ := I.slots i _ e
    have fin : ∀ (xs : List (Key × D)) (vs : List (Key × V)) (b : Addr), P xs n → RepK X.K c.S H xs vs → H b = none → Q (.ref b) (upd H b (.dK vs)) := fun xs vs b p rk hb => by
      obtain ⟨I2, g2, f⟩ := SI.bare (o := .dK vs) I hb
      exact hg xs n b vs _ p (fun b2 o e => by rw [upd_ne (ne_of_none e hb)]; exact e) I2 (.inl upd_same) (RepK.grow g2 _ _ rk) (.inr hb)
    refine ⟨v, slot_some e1, ?_⟩
    cases d with
    | lst xs =>
      obtain ⟨a, us, rfl, r2, _, q1⟩ := r
      obtain ⟨l, el, p⟩ := optW_inv (show optW (pairsL xs) n (fun l k => P (mergeD [] l) k) PX from q)
      obtain ⟨ps, kws, rfl, pr, rk⟩ := reps_pairs q1 el
      exact .inl ⟨a, ps, kws, rfl, r2.sq, pr, fun b hb => fin _ _ b p (RepK.merge (kvs := []) (kws := []) rfl rk) hb⟩
    | tup xs =>
      obtain ⟨a, us, rfl, r2, _, q1⟩ := r
      obtain ⟨l, el, p⟩ := optW_inv (show optW (pairsL xs) n (fun l k => P (mergeD [] l) k) PX from q)
      obtain ⟨ps, kws, rfl, pr, rk⟩ := reps_pairs q1 el
      exact .inr (.inl ⟨a, ps, kws, rfl, r2.elim (fun z => .inl z.2) .inr, pr, fun b hb => fin _ _ b p (RepK.merge (kvs := []) (kws := []) rfl rk) hb⟩)
    | dic kvs =>
      obtain ⟨a, kws, rfl, ⟨_, rd⟩, rk⟩ := r
      exact .inr (.inr ⟨a, kws, rfl, rd, fun b hb => fin _ _ b q rk hb⟩)
    | _ => exact False.elim q
/-- {**a, **b} -/
def overW (a b : List (Key × D)) : W (List (Key × D)) := grd (a.length + b.length ≤ sizeLine) (ret (mergeD (mergeD [] a) b))
theorem k_over {e1 e2 : Expr} {pos : Pos} {g1 g2 : Env → W (List (Key × D))} (h1 : EF G X Wx e1 g1) (h2 : EF G X Wx e2 g2) (hz : G.chg = false := by rfl) :
    EK G X Wx (.Dict [none, none] [e1, e2] pos) (fun ρ => bnd (g1 ρ) fun a => bnd (g2 ρ) fun b => overW a b) :=
  weakE (pe_over h1 h2) fun σ H Q ⟨c, ρ, n, P, PX, I, q, hg, hx⟩ => fun p hp => by
    obtain ⟨I0, g0, f0⟩ := SI.bare (o := .dK []) I hp
    have h0 : c.H0 p = none := I.freeOld hp
    have hS : ¬ c.S p := I.freeS hp
    have hO : ¬ ownS ρ σ p := fun z => I.own_there z hp
    refine ⟨c, ρ, n, fun a k => bnd (g2 ρ) (fun b => grd (a.length + b.length ≤ sizeLine) (ret (mergeD (mergeD [] a) b))) k P PX, PX, I0, q, fun xs k a vs H1 p1 fr1 I1 rd1 rk1 ha => ?_, hx.grow g0⟩
    have e1 : H1 p = some (.dK []) := fr1 p _ upd_same
    have ne1 : a ≠ p := fun z => ha.elim (fun w => hS (z ▸ w)) fun w => by rw [z, upd_same] at w; cases w
    have gr1 : Grow c.S c.S (upd H p (.dK [])) H1 := ⟨fun _ w => w, fun b w => by
      cases eb : upd H p (.dK []) b with
      | none => exact absurd eb (I0.dom b w)
      | some o => exact fr1 b o eb⟩
    obtain ⟨I2, gr2⟩ := SI.put (o := .dK (mergeK [] vs)) I1 h0 hS (I1.mz hz p) hO
    refine ⟨a, vs, rfl, rd1, ne1, e1, c, ρ, k, fun b k => (grd (xs.length + b.length ≤ sizeLine) (ret (mergeD (mergeD [] xs) b))) k P PX, PX, I2, p1, fun ys k2 a2 ws H2 p2 fr2 I3 rd2 rk2 ha2 => ?_, hx.grow ((g0.trans gr1).trans gr2)⟩
    obtain ⟨z, p2⟩ := p2
    have e2 : H2 p = some (.dK (mergeK [] vs)) := fr2 p _ upd_same
    have ne2 : a2 ≠ p := fun z => ha2.elim (fun w => hS (z ▸ w)) fun w => by rw [z, upd_same] at w; cases w
    have gr3 : Grow c.S c.S (upd H1 p (.dK (mergeK [] vs))) H2 := ⟨fun _ w => w, fun b w => by
      cases eb : upd H1 p (.dK (mergeK [] vs)) b with
      | none => exact absurd eb (I2.dom b w)
      | some o => exact fr2 b o eb⟩
    have l1 := rk1.len
    have l2 := rk2.len
    have l3 := length_mergeK vs []
    rw [List.length_nil] at l3
    obtain ⟨I4, gr4⟩ := SI.put (o := .dK (mergeK (mergeK [] vs) ws)) I3 h0 hS (I3.mz hz p) hO
    refine ⟨a2, ws, rfl, rd2, ne2, e2, by omega, ?_⟩
    have rk1' := RepK.grow ((gr2.trans gr3).trans gr4) _ _ rk1
    exact hg _ k2 p _ c.S _ p2 ((((g0.trans gr1).trans gr2).trans gr3).trans gr4) I4 upd_same (RepK.merge (RepK.merge (kvs := []) (kws := []) rfl rk1') (RepK.grow gr4 _ _ rk2)) ⟨⟨hS, h0, I3.mz hz p⟩, fun i sv e ho es => hO ⟨i, sv, e, ho, es⟩⟩
end
/-! ### [.. for key in d ..]: the dict is locked meanwhile -/
def C.free (c : C) (d : Addr) : C := { c with H0 := fun a => if a = d then none else c.H0 a }
mutual
theorem Rep.rd {K : PySem.W.Frag} {S : Addr → Prop} {H H' : Hp} (hl : ∀ a xs, S a → H a = some (.lst xs) → H' a = some (.lst xs)) (ht : ∀ a xs, S a → PlT H a xs → PlT H' a xs) (hd : ∀ a kws, S a → Rd H a (.dK kws) → Rd H' a (.dK kws)) : ∀ (x : D) (v : V), Rep K S H x v → Rep K S H' x v
  | .non, _, h => h
  | .bl _, _, h => h
  | .int _, _, h => h
  | .str _, _, h => h
  | .lst xs, _, h => by
    obtain ⟨a, vs, e, ⟨r1, r2⟩, z, q⟩ := h
    exact ⟨a, vs, e, ⟨r1, hl a _ r1 r2⟩, z, Reps.rd hl ht hd xs vs q⟩
  | .tup xs, _, h => by
    obtain ⟨a, vs, e, r, z, q⟩ := h
    exact ⟨a, vs, e, r.elim (fun ⟨r1, r2⟩ => .inl ⟨r1, ht a _ r1 r2⟩) .inr, z, Reps.rd hl ht hd xs vs q⟩
  | .dic kvs, _, h => by
    obtain ⟨a, kws, e, ⟨r1, r2⟩, q⟩ := h
    exact ⟨a, kws, e, ⟨r1, hd a _ r1 r2⟩, RepK.rd hl ht hd kvs kws q⟩
theorem Reps.rd {K : PySem.W.Frag} {S : Addr → Prop} {H H' : Hp} (hl : ∀ a xs, S a → H a = some (.lst xs) → H' a = some (.lst xs)) (ht : ∀ a xs, S a → PlT H a xs → PlT H' a xs) (hd : ∀ a kws, S a → Rd H a (.dK kws) → Rd H' a (.dK kws)) : ∀ (xs : List D) (vs : List V), Reps K S H xs vs → Reps K S H' xs vs
  | [], _, h => h
  | x :: xs, _, h => by
    obtain ⟨v, ws, e, r, q⟩ := h
    exact ⟨v, ws, e, Rep.rd hl ht hd x v r, Reps.rd hl ht hd xs ws q⟩
theorem RepK.rd {K : PySem.W.Frag} {S : Addr → Prop} {H H' : Hp} (hl : ∀ a xs, S a → H a = some (.lst xs) → H' a = some (.lst xs)) (ht : ∀ a xs, S a → PlT H a xs → PlT H' a xs) (hd : ∀ a kws, S a → Rd H a (.dK kws) → Rd H' a (.dK kws)) : ∀ (xs : List (Key × D)) (vs : List (Key × V)), RepK K S H xs vs → RepK K S H' xs vs
  | [], _, h => h
  | (k, x) :: xs, _, h => by
    obtain ⟨v, ws, e, r, q⟩ := h
    exact ⟨v, ws, e, Rep.rd hl ht hd x v r, RepK.rd hl ht hd xs ws q⟩
end
section
variable {G : PenK} {K : PySem.W.Frag} {c : C} {σ : L2.St} {ρ : Env} {H H' : Hp} {n k : Nt} {d : Addr} {o : Obj} {kws : List (Key × V)}
theorem RepX.rd {S : Addr → Prop} {mg : Str → Option Value} {x : Exc} {cls : Value} {dd : Option Addr} (f : ∀ x v, Rep K S H x v → Rep K S H' x v) (hx : ∀ a fv, H a = some (.xd fv) → H' a = some (.xd fv)) (h : RepX K mg S H x cls dd) : RepX K mg S H' x cls dd := by
  obtain ⟨A, h1, h2, h3⟩ := h
  exact ⟨A, h1, h2, h3.imp id fun ⟨d, fv, e, hs, hd, p⟩ => ⟨d, fv, e, hs, hx d fv hd, repX_pair f p⟩⟩
theorem LamOk.rd {S : Addr → Prop} {b : Addr} {q : Str} {τ : L2.St} {ds : List (Option D)} (f : ∀ x v, Rep K S H x v → Rep K S H' x v) (he : ∀ a φ, H a = some (.ext φ) → H' a = some (.ext φ)) (h : LamOk K S H b q τ ds) : LamOk K S H' b q τ ds := by
  obtain ⟨h1, h2, h3, h4⟩ := h
  refine ⟨h1, he b _ h2, h3, fun i x e => ?_⟩
  obtain ⟨v, e1, r⟩ := h4 i x e
  exact ⟨v, e1, f x v r⟩
theorem TabI.rd {S : Addr → Prop} {P : Addr} {q : Str} (he : ∀ a φ, H a = some (.ext φ) → H' a = some (.ext φ)) (e : H' P = H P) (h : TabI S H P q) : TabI S H' P q := by
  obtain ⟨ps, h1, h2, h3⟩ := h
  refine ⟨ps, e.trans h1, h2, fun pos cv z => ?_⟩
  obtain ⟨c, e1, e2, e3⟩ := h3 pos cv z
  exact ⟨c, e1, e2, he c _ e3⟩
theorem TabI.ne {S : Addr → Prop} {P b : Addr} {q : Str} {o : HO} (h : TabI S H P q) (e : H b = some o) (n : ∀ ps, o ≠ .tbl ps) : P ≠ b := by
  obtain ⟨ps, h1, _⟩ := h
  intro z
  rw [z, e] at h1
  exact n ps (Option.some.inj h1)
/-- what is read is the same while a dict is locked -/
theorem lock_rd (e : H d = some (.dK kws)) : (∀ a xs, H a = some (.lst xs) → upd H d (.frz o (.dK kws)) a = some (.lst xs)) ∧ (∀ a xs, PlT H a xs → PlT (upd H d (.frz o (.dK kws))) a xs) ∧ ∀ a vs, Rd H a (.dK vs) → Rd (upd H d (.frz o (.dK kws))) a (.dK vs) := by
  refine ⟨fun a xs h => ?_, fun a xs ⟨u, h, z⟩ => ⟨u, ?_, z⟩, fun a vs h => ?_⟩
  · rw [upd_ne fun z => by rw [z, e] at h; cases h]; exact h
  · rw [upd_ne fun z => by rw [z, e] at h; cases h]; exact h
  · by_cases z : a = d
    · subst z
      rcases h with h | ⟨u, h⟩
      · rw [e] at h; cases h
        exact .inr ⟨o, upd_same⟩
      · rw [e] at h; cases h
    · unfold Rd
      rw [upd_ne z]
      exact h
theorem unlock_rd (e : H d = some (.frz o (.dK kws))) : (∀ a xs, H a = some (.lst xs) → upd H d (.dK kws) a = some (.lst xs)) ∧ (∀ a xs, PlT H a xs → PlT (upd H d (.dK kws)) a xs) ∧ ∀ a vs, Rd H a (.dK vs) → Rd (upd H d (.dK kws)) a (.dK vs) := by
  refine ⟨fun a xs h => ?_, fun a xs ⟨u, h, z⟩ => ⟨u, ?_, z⟩, fun a vs h => ?_⟩
  · rw [upd_ne fun z => by rw [z, e] at h; cases h]; exact h
  · rw [upd_ne fun z => by rw [z, e] at h; cases h]; exact h
  · by_cases z : a = d
    · subst z
      rcases h with h | ⟨u, h⟩
      · rw [e] at h; cases h
      · rw [e] at h; cases h
        exact .inl upd_same
    · unfold Rd
      rw [upd_ne z]
      exact h
theorem NdOk.rd {K : PySem.W.Frag} {S : Addr → Prop} {H H' : Hp} {a : Addr} {nd : Nd} (f : ∀ d v, Rep K S H d v → Rep K S H' d v) (e : H' a = H a) (h : NdOk K S H a nd) : NdOk K S H' a nd := h.move e
theorem SI.lockD (I : SI G K c σ H ρ n) (hS : c.S d) (e : H d = some (.dK kws)) : SI G K (c.free d) σ (upd H d (.frz o (.dK kws))) ρ n := by
  obtain ⟨l1, l2, l3⟩ := lock_rd (o := o) e
  have nS : ∀ a, ¬ c.S a → a ≠ d := fun a h z => h (z ▸ hS)
  have nO : ∀ i sv a, ρ[i]? = some sv → sv.isOwn = true → slot σ i = some (.ref a) → a ≠ d := fun i sv a h1 h2 h3 => nS a (I.own i sv a h1 h2 h3).1
  have H0e : ∀ a, a ≠ d → (c.free d).H0 a = c.H0 a := fun a h => if_neg h
  refine ⟨I.len, fun i sv h => ?_, fun i sv a h1 h2 h3 => ⟨(I.own i sv a h1 h2 h3).1, (H0e a (nO i sv a h1 h2 h3)).trans (I.own i sv a h1 h2 h3).2.1, (I.own i sv a h1 h2 h3).2.2⟩, I.apart, fun a h => ?_, fun a u h hp => ?_, fun p h => ?_, fun a h => ⟨(I.no a h).1, by rw [H0e a (nS a (I.no a h).1)]; exact (I.no a h).2⟩, fun q h => ⟨(I.tab q h).1, (I.tab q h).2.rd (fun b φ h => by rw [upd_ne fun z => by rw [z, e] at h; cases h]; exact h) (upd_ne ((I.tab q h).2.ne e fun _ z => nomatch z))⟩, fun a nd h => ⟨(I.mu a nd h).1.rd (Rep.rd (fun a xs _ => l1 a xs) (fun a xs _ => l2 a xs) (fun a xs _ => l3 a xs)) (upd_ne (nS a (I.mu a nd h).2.1)), (I.mu a nd h).2.1, (I.mu a nd h).2.2.1.imp id (H0e a (nS a (I.mu a nd h).2.1)).trans, (I.mu a nd h).2.2.2⟩, fun a h => ⟨(I.mu0 a h).1, by rw [H0e a (nS a (I.muS (I.mu0 a h).1).1)]; exact (I.mu0 a h).2⟩, I.mz⟩
  · have q := I.slots i sv h
    cases sv with
    | un => trivial
    | d x => obtain ⟨v, e1, r⟩ := q; exact ⟨v, e1, Rep.rd (fun a xs _ => l1 a xs) (fun a xs _ => l2 a xs) (fun a xs _ => l3 a xs) _ _ r⟩
    | own xs => obtain ⟨a, vs, e1, r, z, q⟩ := q; exact ⟨a, vs, e1, l1 a _ r, z, Reps.rd (fun a xs _ => l1 a xs) (fun a xs _ => l2 a xs) (fun a xs _ => l3 a xs) _ _ q⟩
    | ownK xs => obtain ⟨a, vs, e1, r, q⟩ := q; exact ⟨a, vs, e1, by rw [upd_ne (nO i _ a h rfl e1)]; exact r, RepK.rd (fun a xs _ => l1 a xs) (fun a xs _ => l2 a xs) (fun a xs _ => l3 a xs) _ _ q⟩
    | pen => exact q
    | exc x => obtain ⟨a, cls, dd, e1, hs, ha, A, x1, x2, x3⟩ := q; exact ⟨a, cls, dd, e1, hs, by rw [upd_ne fun z => by rw [z, e] at ha; cases ha]; exact ha, RepX.rd (Rep.rd (fun a xs _ => l1 a xs) (fun a xs _ => l2 a xs) (fun a xs _ => l3 a xs)) (fun b fv h => by rw [upd_ne fun z => by rw [z, e] at h; cases h]; exact h) ⟨A, x1, x2, x3⟩⟩
    | lam f b q' σ' ds => obtain ⟨e1, c1, c2, c3, c4⟩ := q; exact ⟨e1, LamOk.rd (Rep.rd (fun a xs _ => l1 a xs) (fun a xs _ => l2 a xs) (fun a xs _ => l3 a xs)) (fun b φ h => by rw [upd_ne fun z => by rw [z, e] at h; cases h]; exact h) ⟨c1, c2, c3, c4⟩⟩
    | o _ => exact q
  · by_cases z : a = d
    · rw [z, upd_same]; exact fun w => nomatch w
    · rw [upd_ne z]; exact I.dom a h
  · have h : (if a = d then none else c.H0 a) = some u := h
    split at h
    · cases h
    · rename_i z
      rw [upd_ne z]
      exact I.fr a u h hp
  · obtain ⟨h1, h2, h3, h4, h5⟩ := I.pen p h
    exact ⟨G.dep h1 (upd_ne (nS _ h2)) (upd_ne (nS _ h3)), h2, h3, by rw [H0e _ (nS _ h2)]; exact h4, by rw [H0e _ (nS _ h3)]; exact h5⟩
theorem SI.unlockD {S' : Addr → Prop} (I : SI G K c σ H ρ n) (hS : c.S d) (e : H d = some (.dK kws)) (g : Grow c.S S' (upd H d (.frz o (.dK kws))) H') (J : SI G K ((c.free d).to S') σ H' ρ k) :
    SI G K (c.to S') σ (upd H' d (.dK kws)) ρ k ∧ Grow c.S S' H (upd H' d (.dK kws)) ∧ H' d = some (.frz o (.dK kws)) := by
  have e' : H' d = some (.frz o (.dK kws)) := (g.eq d hS).trans upd_same
  obtain ⟨l1, l2, l3⟩ := unlock_rd e'
  have hS' : S' d := g.sub d hS
  have nS : ∀ a, ¬ S' a → a ≠ d := fun a h z => h (z ▸ hS')
  have nO : ∀ i sv a, ρ[i]? = some sv → sv.isOwn = true → slot σ i = some (.ref a) → a ≠ d := fun i sv a h1 h2 h3 => nS a (J.own i sv a h1 h2 h3).1
  refine ⟨⟨J.len, fun i sv h => ?_, fun i sv a h1 h2 h3 => ⟨(J.own i sv a h1 h2 h3).1, (I.own i sv a h1 h2 h3).2.1, (J.own i sv a h1 h2 h3).2.2⟩, J.apart, fun a h => ?_, fun a u h hp => ?_, fun p h => ?_, fun a h => ⟨(J.no a h).1, (I.no a h).2⟩, fun q h => ⟨(J.tab q h).1, (J.tab q h).2.rd (fun b φ h => by rw [upd_ne fun z => by rw [z, e'] at h; cases h]; exact h) (upd_ne ((J.tab q h).2.ne e' fun _ z => nomatch z))⟩, fun a nd h => ⟨(J.mu a nd h).1.rd (Rep.rd (fun a xs _ => l1 a xs) (fun a xs _ => l2 a xs) (fun a xs _ => l3 a xs)) (upd_ne (nS a (J.mu a nd h).2.1)), (J.mu a nd h).2.1, (J.mu a nd h).2.2.1.imp id (fun w => (if_neg (nS a (J.mu a nd h).2.1)).symm.trans w), (J.mu a nd h).2.2.2⟩, fun a h => ⟨(J.mu0 a h).1, (I.mu0 a h).2⟩, J.mz⟩, ⟨g.sub, fun a h => ?_⟩, e'⟩
  · have q := J.slots i sv h
    cases sv with
    | un => trivial
    | d x => obtain ⟨v, e1, r⟩ := q; exact ⟨v, e1, Rep.rd (fun a xs _ => l1 a xs) (fun a xs _ => l2 a xs) (fun a xs _ => l3 a xs) _ _ r⟩
    | own xs => obtain ⟨a, vs, e1, r, z, q⟩ := q; exact ⟨a, vs, e1, l1 a _ r, z, Reps.rd (fun a xs _ => l1 a xs) (fun a xs _ => l2 a xs) (fun a xs _ => l3 a xs) _ _ q⟩
    | ownK xs => obtain ⟨a, vs, e1, r, q⟩ := q; exact ⟨a, vs, e1, by rw [upd_ne (nO i _ a h rfl e1)]; exact r, RepK.rd (fun a xs _ => l1 a xs) (fun a xs _ => l2 a xs) (fun a xs _ => l3 a xs) _ _ q⟩
    | pen => exact q
    | exc x => obtain ⟨a, cls, dd, e1, hs, ha, A, x1, x2, x3⟩ := q; exact ⟨a, cls, dd, e1, hs, by rw [upd_ne fun z => by rw [z, e'] at ha; cases ha]; exact ha, RepX.rd (Rep.rd (fun a xs _ => l1 a xs) (fun a xs _ => l2 a xs) (fun a xs _ => l3 a xs)) (fun b fv h => by rw [upd_ne fun z => by rw [z, e'] at h; cases h]; exact h) ⟨A, x1, x2, x3⟩⟩
    | lam f b q' σ' ds => obtain ⟨e1, c1, c2, c3, c4⟩ := q; exact ⟨e1, LamOk.rd (Rep.rd (fun a xs _ => l1 a xs) (fun a xs _ => l2 a xs) (fun a xs _ => l3 a xs)) (fun b φ h => by rw [upd_ne fun z => by rw [z, e'] at h; cases h]; exact h) ⟨c1, c2, c3, c4⟩⟩
    | o _ => exact q
  · by_cases z : a = d
    · rw [z, upd_same]; exact fun w => nomatch w
    · rw [upd_ne z]; exact J.dom a h
  · by_cases z : a = d
    · subst z
      have q := I.fr a u h hp
      rw [e] at q
      rw [upd_same]
      exact q
    · rw [upd_ne z]
      exact J.fr a u (show (if a = d then none else c.H0 a) = some u by rw [if_neg z]; exact h) hp
  · obtain ⟨h1, h2, h3, _, _⟩ := J.pen p h
    obtain ⟨_, _, _, h4, h5⟩ := I.pen p h
    exact ⟨G.dep h1 (upd_ne (nS _ h2)) (upd_ne (nS _ h3)), h2, h3, h4, h5⟩
  · by_cases z : a = d
    · rw [z, upd_same, e]
    · rw [upd_ne z, g.eq a h, upd_ne z]
end
end PL

/-! [.. for key in d ..] -/
namespace PL
open PySem PySem.Spec L2
theorem walks_keysD {G : PenK} {K : PySem.W.Frag} {S : Addr → Prop} {H : Hp} {a : Addr} {o : Obj} {kvs : List (Key × D)} {kws : List (Key × V)} (hS : S a) (e : H a = some (.frz o (.dK kws))) (r : RepK K S H kvs kws) (hz : ∀ kv ∈ kvs, ∀ s, kv.1 = .inr s → s.length ≤ sizeLine) :
    Walks G K (Itk a o kws) S H (kvs.map fun kv => keyV kv.1) := fun c ρ σ H2 n i g I => by
  have e2 : H2 a = some (.frz o (.dK kws)) := (g.eq a hS).trans e
  have r2 := RepK.keys (RepK.grow g _ _ r) hz
  have hl := r.len
  rw [List.length_map]
  refine ⟨fun hi => ?_, fun hi => ⟨e2, by omega⟩⟩
  have hx : (kvs.map fun kv => keyV kv.1)[i]? = some ((kvs.map fun kv => keyV kv.1)[i]'(by rw [List.length_map]; exact hi)) := List.getElem?_eq_getElem _
  obtain ⟨v, e3, r3⟩ := Reps.at r2 hx
  refine ⟨⟨e2, by omega⟩, fun u H' ⟨eH, k, v', e4, eu⟩ => ⟨c.S, _, eH ▸ .refl, eH ▸ I, hx, ?_⟩⟩
  rw [List.getElem?_map, e4] at e3
  cases e3
  rw [eH, eu]
  exact r3
section
variable {G : PenK} {X : Cx} {Wx : WX}
theorem pe_or {e : Expr} {t1 t2 : TE} (h1 : PE X e t1) (h2 : PE X e t2) : PE X e (fun σ H Q => t1 σ H Q ∨ t2 σ H Q) := ⟨fun pins s σ H Q I h => h.elim (h1.run pins s σ H Q I) (h2.run pins s σ H Q I)⟩
theorem o_lcK {elt tg : Expr} {x : Str} {px : Pos} {ifs : List Expr} {scope : Scope} {own : List (Str × Nat)} {pos : Pos} {t : Tg} {gt : Env → W Bool} {ge : Env → W D} (i : Nat) (hc : X.calm = true) (hN : X.N.Nodup) (ok : BlkOk X.N X.env.scope scope own)
    (hg : ∀ (s : Shared) (H : Hp) (A : Addr) (cl : List (Str × Addr)) (fp : List Addr), PTg (X.blk s H scope (compEnvC scope cl A X.env) fp) tg t) (ht : ∀ (s : Shared) (H : Hp) (A : Addr) (cl : List (Str × Addr)) (fp : List Addr), Ts G (X.blk s H scope (compEnvC scope cl A X.env) fp) ifs gt)
    (he : ∀ (s : Shared) (H : Hp) (A : Addr) (cl : List (Str × Addr)) (fp : List Addr), E G (X.blk s H scope (compEnvC scope cl A X.env) fp) WF elt ge) (hi : X.N[i]? = some x := by rfl) (hv : Vis X.env.scope x := by first | exact Or.inl rfl | exact Or.inr (Or.inl rfl) | exact Or.inr (Or.inr rfl)) (hd : (x == ("__debug__" : Str)) = false := by decide)
    (hcd : (x == ("__classdict__" : Str)) = false := by decide) (hix : ∀ i ∈ t.ix, i ∈ own.map (·.2) := by decide) (hs : ∀ y, foldedSetIterable (.Name x px) X.env y = pure y := by intro _; rfl) :
    EO G X Wx (.ListComp elt [⟨tg, .Name x px, ifs, 0⟩] scope pos) (fun ρ => bnd (nm ρ i) fun d => bnd (keysD d) fun xs => few xs (grd (noOwn (own.map (·.2)) ρ = true) (quiet (compW t gt ge (wip (own.map (·.2)) ρ) xs)))) := by
  have base := pe_lc (g := gT X.K t) (tt := tT G X WF gt) (te := tE G X WF ge) hc hN (pi_keys (X := X) (tg := tg) (pe_var (pos := px) hi hv hd hcd)) ok hg ht he (pos := pos) hs
  refine weakE (pe_or base (pe_lock base)) fun σ H Q ⟨c, ρ, n, P, PX, I, q, hgo, hx⟩ => ?_
  obtain ⟨d, e, q⟩ := nm_inv (show bnd (nm ρ i) (fun d => bnd (keysD d) fun xs => few xs (grd (noOwn (own.map (·.2)) ρ = true) (quiet (compW t gt ge (wip (own.map (·.2)) ρ) xs)))) n P PX from q)
  obtain ⟨v, e1, r⟩ := I.slots i _ e
  cases d with
  | dic kvs =>
    obtain ⟨a, kws, rfl, ⟨hS, rd⟩, rk⟩ := r
    obtain ⟨⟨z1, z2⟩, z3, hno, p⟩ := q
    rcases rd with hd1 | ⟨o, hd1⟩
    · refine .inr ⟨a, .dK kws, hd1, True.intro, fun od => ⟨.ref a, slot_some e1, a, od, rfl, .inl ⟨kws, upd_same, ?_⟩⟩⟩
      have I2 := I.lockD (o := od) hS hd1
      obtain ⟨l1, l2, l3⟩ := lock_rd (o := od) hd1
      refine lc_body (Q := fun v H' => H' a = some (.frz od (.dK kws)) ∧ Q v (upd H' a (.dK kws))) (c := c.free a) (S' := c.S) (H := upd H a (.frz od (.dK kws))) hix (fun ys k b vs S' H' p g I' e z r f => ?_) z3 hno p .refl I2 (walks_keysD hS upd_same (RepK.rd (fun a xs _ => l1 a xs) (fun a xs _ => l2 a xs) (fun a xs _ => l3 a xs) _ _ rk) z2)
      obtain ⟨I3, g3, e3⟩ := I.unlockD hS hd1 g I'
      obtain ⟨m1, m2, m3⟩ := unlock_rd e3
      have nb : b ≠ a := fun w => by rw [w, e3] at e; cases e
      refine ⟨e3, hgo ys k b vs S' _ p g3 I3 (by rw [upd_ne nb]; exact e) z (Reps.rd (fun a xs _ => m1 a xs) (fun a xs _ => m2 a xs) (fun a xs _ => m3 a xs) _ _ r) ⟨⟨f.1.1, ?_⟩, f.2⟩⟩
      have := f.1.2
      rwa [show ((c.free a).to S').H0 b = c.H0 b from if_neg nb] at this
    · exact .inl ⟨.ref a, slot_some e1, a, o, rfl, .inl ⟨kws, hd1, lc_body (c := c) (S' := c.S) (H := H) hix hgo z3 hno p .refl I (walks_keysD hS hd1 rk z2)⟩⟩
  | _ => exact False.elim q
/-- .. over the values that the target takes -/
theorem o_lcKQ {α : Type} {elt tg : Expr} {x : Str} {px : Pos} {ifs : List Expr} {scope : Scope} {own : List (Str × Nat)} {pos : Pos} {t : Tg} {gt : Env → W Bool} {ge : Env → W D} {mu : D → W α} {ee : α → Env → Env} (i : Nat) (hsT : ∀ x ρ, setT t x ρ = bnd (mu x) fun a => ret (ee a ρ)) (hc : X.calm = true) (hN : X.N.Nodup) (ok : BlkOk X.N X.env.scope scope own)
    (hg : ∀ (s : Shared) (H : Hp) (A : Addr) (cl : List (Str × Addr)) (fp : List Addr), PTg (X.blk s H scope (compEnvC scope cl A X.env) fp) tg t) (ht : ∀ (s : Shared) (H : Hp) (A : Addr) (cl : List (Str × Addr)) (fp : List Addr), Ts G (X.blk s H scope (compEnvC scope cl A X.env) fp) ifs gt)
    (he : ∀ (s : Shared) (H : Hp) (A : Addr) (cl : List (Str × Addr)) (fp : List Addr), E G (X.blk s H scope (compEnvC scope cl A X.env) fp) WF elt ge) (hi : X.N[i]? = some x := by rfl) (hv : Vis X.env.scope x := by first | exact Or.inl rfl | exact Or.inr (Or.inl rfl) | exact Or.inr (Or.inr rfl)) (hd : (x == ("__debug__" : Str)) = false := by decide)
    (hcd : (x == ("__classdict__" : Str)) = false := by decide) (hix : ∀ i ∈ t.ix, i ∈ own.map (·.2) := by decide) (hs : ∀ y, foldedSetIterable (.Name x px) X.env y = pure y := by intro _; rfl) :
    EO G X Wx (.ListComp elt [⟨tg, .Name x px, ifs, 0⟩] scope pos) (fun ρ => bnd (bnd (nm ρ i) keysD) (compM mu ee (own.map (·.2)) gt ge ρ)) :=
  (o_lcK i hc hN ok hg ht he hi hv hd hcd hix hs).eq (by
    funext ρ
    rw [bnd_bnd]
    congr 1
    funext d
    congr 1
    funext xs
    exact compM_eq (f := fun x => x) (tt := fun xs => xs) (fun _ => by simp) hsT _ _ _ _ _)
end
end PL

/-! sorted of pairs (text, int). -/
namespace PL
open PySem PySem.Spec PyProof.Rows L2
open SrtO hiding Str
def lexS (p q : Str × Int) : Bool := if p.1 = q.1 then decide (p.2 < q.2) else decide (p.1.cps.toList < q.1.cps.toList)
theorem cps_inj {a b : Str} (h : a.cps.toList = b.cps.toList) : a = b := PL.str_ext h
theorem lexS_iff {p q : Str × Int} : lexS p q = true ↔ p.1.cps.toList < q.1.cps.toList ∨ (p.1 = q.1 ∧ p.2 < q.2) := by
  unfold lexS
  by_cases e : p.1 = q.1
  · rw [if_pos e, decide_eq_true_eq, e]
    exact ⟨fun h => .inr ⟨rfl, h⟩, fun h => h.elim (fun z => absurd z (List.lt_irrefl _)) (·.2)⟩
  · rw [if_neg e, decide_eq_true_eq]
    exact ⟨.inl, fun h => h.elim id fun z => absurd z.1 e⟩
theorem lexS_no {p q : Str × Int} : lexS p q = false ↔ ¬ (p.1.cps.toList < q.1.cps.toList ∨ (p.1 = q.1 ∧ p.2 < q.2)) := by
  rw [← lexS_iff]
  cases lexS p q <;> simp
theorem swo_lexS (k : Value → Str × Int) : Swo fun v u => lexS (k v) (k u) := by
  refine ⟨fun x y h => ?_, fun x y z h1 h2 => ?_⟩
  · have a := lexS_iff.mp h
    refine lexS_no.mpr fun b => ?_
    rcases a with a | ⟨a, a2⟩
    · rcases b with b | ⟨b, _⟩
      · exact List.lt_asymm a b
      · rw [b] at a; exact List.lt_irrefl _ a
    · rcases b with b | ⟨b, b2⟩
      · rw [a] at b; exact List.lt_irrefl _ b
      · omega
  · have a := lexS_no.mp h1
    have b := lexS_no.mp h2
    refine lexS_no.mpr fun c => ?_
    have a1 : ¬ (k y).1.cps.toList < (k x).1.cps.toList := fun z => a (.inl z)
    have b1 : ¬ (k z).1.cps.toList < (k y).1.cps.toList := fun z => b (.inl z)
    have le1 : (k x).1.cps.toList ≤ (k y).1.cps.toList := List.not_lt.mp a1
    have le2 : (k y).1.cps.toList ≤ (k z).1.cps.toList := List.not_lt.mp b1
    rcases c with c | ⟨c, c2⟩
    · exact List.not_lt.mpr (List.le_trans le1 le2) c
    · have e1 : (k x).1 = (k y).1 := cps_inj (List.le_antisymm le1 (by rw [← c]; exact le2))
      have e2 : (k y).1 = (k z).1 := e1.symm.trans c.symm
      have a2 : ¬ (k y).2 < (k x).2 := fun w => a (.inr ⟨e1.symm, w⟩)
      have b2 : ¬ (k z).2 < (k y).2 := fun w => b (.inr ⟨e2.symm, w⟩)
      omega
def IsSI (h : Heap) (v : Value) (x : Str) (y : Int) : Prop := ∃ a o t u n, v = .ref a ∧ h.get? a = some o ∧ o.cls = .type "tuple" ∧ o.data = .seq #[.str x t, .int y u] n
theorem IsSI.keeps {h h' : Heap} {v : Value} {x : Str} {y : Int} (p : IsSI h v x y) (k : ∀ b o, h.get? b = some o → o.cls = .type "tuple" → h'.get? b = some o) : IsSI h' v x y := by
  obtain ⟨a, o, t, u, n, e, ho, hc, hd⟩ := p
  exact ⟨a, o, t, u, n, e, k _ _ ho hc, hc, hd⟩
section
variable {prog : Program} {w : World} {A : Around} {E : Value → Shared → Prop} {s : Shared}
theorem si_cmp {vs : List Value} {k : Value → Str × Int} (hp : ∀ v ∈ vs, IsSI s.heap v (k v).1 (k v).2) : Cmp prog w A s (tuples' true) (fun p => p.1 ∈ vs) (lt2 fun v u => lexS (k v) (k u)) := by
  intro p q hm hm'
  have h1 := hp _ hm
  have h2 := hp _ hm'
  show wpAny (model prog w) A (keyLt' (tuples' true) p.1 q.1) (fun r s' => s' = s ∧ r = lexS (k p.1) (k q.1)) (fun _ _ => False) s
  unfold lexS
  generalize (k p.1).1 = x at h1 ⊢
  generalize (k p.1).2 = y at h1 ⊢
  generalize (k q.1).1 = x' at h2 ⊢
  generalize (k q.1).2 = y' at h2 ⊢
  obtain ⟨a, o, t, u, n, e, ho, hc, hd⟩ := h1
  obtain ⟨a', o', t', u', n', e', ho', hc', hd'⟩ := h2
  rw [e, e']
  refine PySem.W.kat_lt ho hd ho' hd' ?_
  show PySem.W.KatLex prog w A true (decide (2 < 2)) _ [(.str x t, .str x' t'), (.int y u, .int y' u')] 0 s
  refine PySem.W.kat_cons (SeqAt.EqAt.str_str x t x' t' prog w _ _ ?_)
  refine PySem.W.kat_go (fun e1 => ?_) (fun e1 => ?_)
  · have ex : x = x' := by simpa using e1
    refine PySem.W.kat_yes (PySem.W.kat_cons (SeqAt.EqAt.int_int y u y' u' prog w _ _ ?_))
    refine PySem.W.kat_go (fun e2 => ?_) (fun e2 => ?_)
    · have ey : y = y' := by simpa using e2
      have e3 : (if x = x' then decide (y < y') else decide (x.cps.toList < x'.cps.toList)) = false := by
        rw [if_pos ex, ey]
        exact decide_eq_false (Int.lt_irrefl _)
      exact PySem.W.kat_yes (PySem.W.kat_nil ⟨rfl, e3.symm⟩)
    · have e3 : (if x = x' then decide (y < y') else decide (x.cps.toList < x'.cps.toList)) = decide (y < y') := if_pos ex
      refine PySem.W.kat_no (PySem.W.kat_one _ _ (PyProof.Rows.lt_int ?_))
      exact (show s = s ∧ decide (y < y') = (if x = x' then decide (y < y') else decide (x.cps.toList < x'.cps.toList)) from ⟨rfl, e3.symm⟩)
  · have ex : ¬ x = x' := by simpa using e1
    have e3 : (if x = x' then decide (y < y') else decide (x.cps.toList < x'.cps.toList)) = decide (x.cps.toList < x'.cps.toList) := if_neg ex
    exact PySem.W.kat_no (oneLt_str ⟨rfl, e3.symm⟩)
theorem si_firsts {h : Heap} : ∀ {vs : List Value}, (∀ v ∈ vs, ∃ x y, IsSI h v x y) → ∃ fs : List Value, PySem.W.KatTups h vs fs ∧ fs.length = vs.length ∧ ∀ f ∈ fs, ∃ x t, f = Value.str x t
  | [], _ => ⟨[], PySem.W.KatTups.nil, rfl, fun _ hm => by simp at hm⟩
  | v :: vs, hp => by
    obtain ⟨fs, h1, h2, h3⟩ := si_firsts (vs := vs) fun v' hm => hp v' (List.mem_cons_of_mem _ hm)
    obtain ⟨x, y, a, o, t, u, n, e, ho, hc, hd⟩ := hp v (List.mem_cons_self ..)
    subst e
    refine ⟨.str x t :: fs, PySem.W.KatTups.cons ho hc hd rfl h1, by rw [List.length_cons, List.length_cons, h2], fun f hm => ?_⟩
    rcases List.mem_cons.mp hm with rfl | hm
    · exact ⟨x, t, rfl⟩
    · exact h3 f hm
theorem si_sortable {a : Addr} {vs : List Value} {k : Value → Str × Int} (h0 : 0 < vs.length) (hp : ∀ v ∈ vs, IsSI s.heap v (k v).1 (k v).2) (ha : ∀ o, s.heap.get? a = some o → o.cls ≠ .type "tuple") : SortableO prog w A s a vs fun v u => lexS (k v) (k u) := by
  intro h' keep
  have hp' : ∀ v ∈ vs, IsSI h' v (k v).1 (k v).2 := fun v hm => (hp v hm).keeps fun b o e c => keep b o (fun z => by subst z; exact ha o e c) e
  obtain ⟨fs, h1, h2, h3⟩ := si_firsts fun v hm => ⟨_, _, hp' v hm⟩
  refine ⟨tuples' true, fun Q E hq => ?_, si_cmp hp'⟩
  refine PySem.W.kat_kind (T := .type "str") h1 (by omega) (fun f hm => ?_) (by rfl) ?_
  · obtain ⟨x, t, rfl⟩ := h3 f hm
    exact PySem.W.Looks.now
  · have e : (Value.type "str" != Value.type "tuple") = true := by first | decide +kernel | rfl | decide
    rw [e]
    exact hq
theorem sorted_si {l : Addr} {vs : List Value} {k : Value → Str × Int} {Q : Value → Shared → Prop} (hl : s.heap.IsList l vs.toArray) (hz : vs.length ≤ sizeLine) (hp : ∀ v ∈ vs, IsSI s.heap v (k v).1 (k v).2) (hs : Srtd (fun v u => lexS (k v) (k u)) vs)
    (h : ∀ (h' : Heap) (d : Addr), (∀ b o, s.heap.get? b = some o → h'.get? b = some o) → s.heap.objs.size ≤ d → (∃ n, h'.get? d = some (seqObj "list" vs.toArray n)) → Q (.ref d) { s with heap := h' }) :
    wpAny (model prog w) A (call (.builtin "sorted") [.ref l]) Q E s := by
  refine sorted_ord (swo_lexS k) hl hz (fun h2 h₁ a ha kk => ?_) fun out hs2 hb => ?_
  · refine si_sortable (s := { s with heap := h₁ }) (by omega) (fun v hm => (hp v hm).keeps fun b o e _ => (kk b o e).2) fun o e => ?_
    have e' : some o = some (seqObj "list" vs.toArray 0) := e.symm.trans ha
    cases e'
    intro c
    exact absurd (Value.type.inj c) (by decide)
  · obtain rfl : out = vs := stb_uniq (swo_lexS k) hs2 hs hb
    exact h _ _ (fun b o e => sortedAll_old e) (Nat.le_succ _) (sortedAll_at s.heap out out.toArray)
end
def kOf (h : Heap) : Value → Str × Int
  | .ref a => match h.get? a with
    | some o => match o.data with
      | .seq xs _ => match xs.toList with
        | [.str x _, .int y _] => (x, y)
        | _ => (Str.ofString "", 0)
      | _ => (Str.ofString "", 0)
    | none => (Str.ofString "", 0)
  | _ => (Str.ofString "", 0)
theorem kOf_si {h : Heap} {v : Value} {x : Str} {y : Int} (p : IsSI h v x y) : kOf h v = (x, y) := by
  obtain ⟨a, o, t, u, n, rfl, ho, hc, hd⟩ := p
  simp [kOf, ho, hd]
section
variable {X : Cx} {pins : List (Addr × Obj)} {σ : L2.St} {H : Hp} {s : Shared}
theorem si_of (I : Inv X pins σ H s) : ∀ {ps : List Addr} {ks : List (Str × Int)}, Paired (fun p kv => SqT X.K H p [.str kv.1, .int kv.2]) ps ks → (∀ v ∈ ps.map Value.ref, IsSI s.heap v (kOf s.heap v).1 (kOf s.heap v).2) ∧ (ps.map Value.ref).map (kOf s.heap) = ks
  | _, _, .nil => ⟨fun _ h => by simp at h, rfl⟩
  | _, _, .cons (a := p) (b := kv) h t => by
    obtain ⟨ih, ih2⟩ := si_of I t
    obtain ⟨its, rv, ⟨o, ho, hc, n, hd⟩, _⟩ := I.tuple h
    obtain ⟨u1, u2, rfl, ri, rj⟩ := vals2 rv
    obtain ⟨t1, rfl⟩ := ri
    obtain ⟨t2, rfl⟩ := rj
    have z : IsSI s.heap (.ref p) kv.1 kv.2 := ⟨p, o, t1, t2, n, rfl, ho, hc, hd⟩
    have e := kOf_si z
    refine ⟨fun v hv => ?_, ?_⟩
    · rw [List.map_cons] at hv
      rcases List.mem_cons.mp hv with rfl | hv
      · rw [e]; exact z
      · exact ih v hv
    · rw [List.map_cons, List.map_cons, ih2, e]
theorem call_sortedSI : CallR X (.builtin "sorted") (fun xs H Q => ∃ (a : Addr) (ps : List Addr) (ks : List (Str × Int)), xs = [.ref a] ∧ SqL X.K H a (ps.map V.ref) ∧ Paired (fun p kv => SqT X.K H p [.str kv.1, .int kv.2]) ps ks ∧ ks.Pairwise (fun p q => lexS q p = false) ∧
    ∀ p, H p = none → Q (.ref p) (upd H p (.lst (ps.map V.ref)))) := by
  intro pins s σ H xs us Q I r q
  obtain ⟨a, ps, ks, rfl, hq, hp, hs, q⟩ := q
  obtain ⟨u, rfl, rx⟩ := vals1 r
  cases rx
  obtain ⟨its, rv, hl, hz⟩ := I.list hq
  have ei := refs_at rv
  subst ei
  rw [List.length_map] at hz
  obtain ⟨h1, h2⟩ := si_of I hp
  refine sorted_si (k := kOf s.heap) hl.isList (by rw [List.length_map]; exact hz) h1 ?_ fun h' d kp hd ⟨n, hn⟩ => ?_
  · rw [← h2] at hs
    exact List.pairwise_map.mp hs
  · exact ⟨.ref d, upd H d (.lst (ps.map V.ref)), I.laid (t' := s.toks) kp hd ⟨by rw [List.length_map]; exact hz, _, n, rv, hn⟩, rfl, q d (I.hok.fresh hd)⟩
end
def siL : List D → Option (List (Str × Int))
  | [] => some []
  | x :: r => match x with
    | .tup [.str s, .int i] => (siL r).map fun l => (s, i) :: l
    | _ => none
/-- sorted, of what is sorted -/
def sortPW : D → W (List D)
  | .lst xs => bnd (optW (siL xs)) fun l => grd (l.Pairwise fun p q => lexS q p = false) (ret xs)
  | _ => stuck
theorem reps_si {K : PySem.W.Frag} {S : Addr → Prop} {H : Hp} : ∀ {xs : List D} {vs : List V} {l : List (Str × Int)}, Reps K S H xs vs → siL xs = some l → ∃ ps : List Addr, vs = ps.map V.ref ∧ Paired (fun p kv => SqT K H p [.str kv.1, .int kv.2]) ps l
  | [], _, _, h, e => by
    have e0 : _ = [] := h
    rw [e0]
    cases e
    exact ⟨[], rfl, .nil⟩
  | x :: xs, _, l, h, e => by
    obtain ⟨v, ws, rfl, r, q⟩ := h
    match x, e, r with
    | .tup [.str y, .int i], e, r =>
      have e : (siL xs).map (fun l => (y, i) :: l) = some l := e
      cases es : siL xs with
      | none => rw [es] at e; cases e
      | some l2 =>
        rw [es] at e
        cases e
        obtain ⟨ps, e1, e2⟩ := reps_si q es
        obtain ⟨p, vs2, rfl, r1, _, v1, w1, rfl, ⟨rfl, _⟩, v2, w2, rfl, rfl, q3⟩ := r
        have q3 : w2 = [] := q3
        subst q3
        exact ⟨p :: ps, by rw [e1]; rfl, .cons r1.sq e2⟩
section
variable {G : PenK} {X : Cx} {Wx : WX}
theorem o_sortP {p pos : Pos} {e : Expr} {g : Env → W D} (hm : X.mg "sorted" = none) (h : E G X Wx e g) (hg : Gl X "sorted" := by rfl) (he : starEach [e] X.env = (false, eval e X.env) :: starEach [] X.env := by rfl) :
    EO G X Wx (.Call (.Name "sorted" p) [e] [] pos) (fun ρ => bnd (g ρ) sortPW) :=
  o_b1 hm (by decide +kernel) call_sortedSI (r := fun x H Q => ∃ (a : Addr) (ps : List Addr) (ks : List (Str × Int)), x = .ref a ∧ SqL X.K H a (ps.map V.ref) ∧ Paired (fun p kv => SqT X.K H p [.str kv.1, .int kv.2]) ps ks ∧ ks.Pairwise (fun p q => lexS q p = false) ∧
    ∀ p, H p = none → Q (.ref p) (upd H p (.lst (ps.map V.ref)))) (by
    intro c σ ρ H n P PX d v Q I r q hg hx
    cases d with
    | lst xs =>
      obtain ⟨a, vs, rfl, r1, z, q1⟩ := r
      obtain ⟨l, el, hs, q⟩ := optW_inv (show optW (siL xs) n (fun l k => (grd (l.Pairwise fun p q => lexS q p = false) (ret xs)) k P PX) PX from q)
      obtain ⟨ps, rfl, pr⟩ := reps_si q1 el
      exact ⟨a, ps, l, rfl, r1.sq, pr, hs, fun b hb => hg.new q I hb z q1⟩
    | _ => exact False.elim q) (fun x H Q ⟨a, ps, ks, e, h⟩ => ⟨a, ps, ks, by rw [e], h⟩) h hg (by decide) (by decide) he (by rfl)
end
end PL

/-! a, b = x, y with local names: no pair is made. -/
namespace PL
open PySem PySem.Spec L2
def unpL2 : List D → W (D × D)
  | [a, b] => ret (a, b)
  | _ => stuck
section
variable {G : PenK} {X : Cx} {Wx : WX} {γ : Type} {En : Enz γ} {ρ : Env} {rest : List Stmt} {m : W γ}
theorem s_par {x y : Str} {a b : Expr} {px py pt pos : Pos} {kt : Nat} {k2 : Nat} {pt2 : Pos} {gs : Env → W (List D)} (i j : Nat) (hc : X.calm = true) (hN : X.N.Nodup) (h : A G X Wx [a, b] gs) (hi : X.N[i]? = some x) (hj : X.N[j]? = some y) (hij : i ≠ j)
    (hx : X.env.scope.names.lookup x = some .local) (hy : X.env.scope.names.lookup y = some .local)
    (hw : swappedStores [.Tuple [.Name x px, .Name y py] kt pt] (.Tuple [a, b] k2 pt2) X.env = pure (some [x, y])) (hs : swapsWithSole [.Tuple [.Name x px, .Name y py] kt pt] (.Tuple [a, b] k2 pt2) pos.line X.env = pure false) :
    St1 G X Wx (.Assign [.Tuple [.Name x px, .Name y py] kt pt] (.Tuple [a, b] k2 pt2) pos) (fun ρ => bnd (bnd (gs ρ) unpL2) fun p => ret (.nx ((ρ.set i (.d p.1)).set j (.d p.2)))) :=
  weakS (ps_par hc hN hi hj hij hx hy h hw hs) fun Dn σ H ⟨c, ρ, n, P, PX, I, q, hg, hx⟩ => tAr.bnd (α := Out) (P := P) (f := fun ds => bnd (unpL2 ds) fun p => ret (Out.nx ((ρ.set i (.d p.1)).set j (.d p.2)))) I q hx.x fun ds k vs S' H' p g I' hx' r => by
    match ds, r, p with
    | [d1, d2], r, p =>
      obtain ⟨v, w, rfl, r1, r2⟩ := r.two_inv
      exact ⟨v, w, rfl, hg.1 _ k _ S' H' p g ((I'.set (i := i) r1).set (i := j) r2)⟩
    | [], _, p => exact False.elim p
    | [_], _, p => exact False.elim p
    | _ :: _ :: _ :: _, _, p => exact False.elim p
theorem sg_par2 {x y : Str} {a b : Expr} {px py pt pos : Pos} {kt : Nat} {k2 : Nat} {pt2 : Pos} {gs : Env → W (List D)} {α : Type} {m0 : W α} {f1 f2 : α → D} {k : α → W γ} {ρ' : α → Env} (i j L : Nat) (h : A G X Wx [a, b] gs) (hc : X.calm = true) (hN : X.N.Nodup) (hg : bnd (gs ρ) unpL2 = bnd m0 fun a => ret (f1 a, f2 a)) (inj : ∀ a b, f1 a = f1 b → f2 a = f2 b → a = b) (hL : ρ.length = L) (hi : i < L) (hj : j < L) (hij : j ≠ i) (hρ : ∀ a, (ρ.set i (.d (f1 a))).set j (.d (f2 a)) = ρ' a) (hr : ∀ a, SG G X Wx rest (ρ' a) En (k a))
    (hi2 : X.N[i]? = some x := by rfl) (hj2 : X.N[j]? = some y := by rfl) (hx : X.env.scope.names.lookup x = some .local := by rfl) (hy : X.env.scope.names.lookup y = some .local := by rfl)
    (hw : swappedStores [.Tuple [.Name x px, .Name y py] kt pt] (.Tuple [a, b] k2 pt2) X.env = pure (some [x, y]) := by rfl) (hs : swapsWithSole [.Tuple [.Name x px, .Name y py] kt pt] (.Tuple [a, b] k2 pt2) pos.line X.env = pure false := by rfl) :
    SG G X Wx (.Assign [.Tuple [.Name x px, .Name y py] kt pt] (.Tuple [a, b] k2 pt2) pos :: rest) ρ En (bnd m0 k) :=
  sg_stmt (e := fun a => (ρ.set i (.d (f1 a))).set j (.d (f2 a))) (s_par i j hc hN h hi2 hj2 (Ne.symm hij) hx hy hw hs) (by
    rw [hg, bnd_bnd]
    rfl) (fun a b hab => by
    have q := congrArg (·[j]?) hab
    simp only [List.getElem?_set_self (show j < (ρ.set i (SV.d (f1 a))).length by simp [hL, hj]), List.getElem?_set_self (show j < (ρ.set i (SV.d (f1 b))).length by simp [hL, hj])] at q
    have q2 := congrArg (·[i]?) hab
    simp only [List.getElem?_set_ne hij, List.getElem?_set_self (show i < ρ.length by rw [hL]; exact hi)] at q2
    exact inj a b (SV.d.inj (Option.some.inj q2)) (SV.d.inj (Option.some.inj q))) fun a => by rw [hρ]; exact hr a
end
end PL

/-! range(a, b, -1); a, b, c, d = e. -/
namespace PL
open PySem PySem.Spec L2
def rngDn (lo : Int) (n : Nat) : List Int := (List.range n).map fun i => lo + (i : Nat) * (-1)
def rngM (i j : Int) : W (List Int) := grd (inR i ∧ inR j) (ret (rngDn i (i - j).toNat))
def rngDM : D → D → W (List Int)
  | .int i, .int j => rngM i j
  | _, _ => stuck
theorem rngDn_len (lo : Int) (n : Nat) : (rngDn lo n).length = n := by unfold rngDn; rw [List.length_map, List.length_range]
theorem walks_rngDn {G : PenK} {K : PySem.W.Frag} {S : Addr → Prop} {H : Hp} {lo : Int} {n : Nat} : Walks G K (Itc lo (-1) n) S H ((rngDn lo n).map .int) := fun c ρ σ H2 k i g I => by
  rw [List.length_map, rngDn_len]
  refine ⟨fun hi => ⟨hi, fun v H' ⟨e1, e2⟩ => ⟨c.S, .int (lo + (i : Nat) * (-1)), e1 ▸ .refl, e1 ▸ I, ?_, e2⟩⟩, fun hi => hi⟩
  unfold rngDn
  rw [List.getElem?_map, List.getElem?_map, List.getElem?_range hi]
  rfl
theorem Reps.three_inv {K : PySem.W.Frag} {S : Addr → Prop} {H : Hp} {a b c : D} {vs : List V} (h : Reps K S H [a, b, c] vs) : ∃ u v w, vs = [u, v, w] ∧ Rep K S H a u ∧ Rep K S H b v ∧ Rep K S H c w := by
  obtain ⟨u, r1, rfl, h1, v, r2, rfl, h2, w, r3, rfl, h3, h4⟩ := h
  have h4 : r3 = [] := h4
  subst h4
  exact ⟨u, v, w, rfl, h1, h2, h3⟩
section
variable {G : PenK} {X : Cx} {Wx : WX}
theorem w_rngMZ {tg a b c : Expr} {p pos : Pos} {ga gb gc : Env → W D} (hm : X.mg "range" = none) (ha : E G X Wx a ga) (hb : E G X Wx b gb) (hc : E G X Wx c gc) (h1 : ∀ ρ, gc ρ = ret (.int (-1))) (hg : Gl X "range" := by rfl)
    (hs : starEach [a, b, c] X.env = (false, eval a X.env) :: starEach [b, c] X.env := by rfl) (hs2 : starEach [b, c] X.env = (false, eval b X.env) :: starEach [c] X.env := by rfl) (hs3 : starEach [c] X.env = (false, eval c X.env) :: starEach [] X.env := by rfl) (hpl : (backTo pos (starEach [b, c] X.env)).any (·.1) = false := by rfl) :
    Wk G X Wx tg (.Call (.Name "range" p) [a, b, c] [] pos) (fun ρ => bnd (bnd (ga ρ) fun x => bnd (gb ρ) fun y => rngDM x y) fun ys => ret (ys.map .int)) :=
  weakI (pi_range3 hg hm (a_cons ha (a_cons hb (a_cons hc a_nil hs3) hs2) hs) hs hpl) fun σ H R ⟨cc, ρ, n, P, PX, I, q, hgo, hx⟩ => by
    let F : List D → W (List D) := fun ds => match ds with
      | [x, y, .int z] => grd (z = -1) (bnd (rngDM x y) fun ys => ret (ys.map D.int))
      | _ => stuck
    have e : (bnd (bnd (ga ρ) fun x => bnd (gb ρ) fun y => rngDM x y) fun ys => ret (ys.map D.int) : W (List D)) = bnd (bnd (ga ρ) fun x => bnd (bnd (gb ρ) fun x => bnd (bnd (gc ρ) fun x => bnd (ret []) fun xs => ret (x :: xs)) fun xs => ret (x :: xs)) fun xs => ret (x :: xs)) F := by
      rw [h1]
      simp only [bnd_bnd, bnd_ret]
      congr 1
      funext x
      congr 1
      funext y
      exact (grd_pos rfl _).symm
    have q : bnd (bnd (ga ρ) fun x => bnd (gb ρ) fun y => rngDM x y) (fun ys => ret (ys.map D.int)) n P PX := q
    rw [e] at q
    refine tAr.bnd (g := fun ρ => bnd (ga ρ) fun x => bnd (bnd (gb ρ) fun x => bnd (bnd (gc ρ) fun x => bnd (ret []) fun xs => ret (x :: xs)) fun xs => ret (x :: xs)) fun xs => ret (x :: xs)) (f := F) I q hx fun ds k vs S' H' p g I' hx' r => ?_
    match ds, r, p with
    | [.int i, .int j, .int z], r, p =>
      obtain ⟨hz, ⟨z1, z2⟩, p⟩ := p
      have hz : z = -1 := hz
      subst hz
      obtain ⟨u, v, w, rfl, rfl, rfl, rfl⟩ := r.three_inv
      exact ⟨i, j, -1, _, rfl, RgC.neg z1.1 z1.2 z2.1 z2.2, hgo _ k S' H' _ p g I' walks_rngDn⟩
    | [.int i, .non, .int z], _, p | [.int i, .bl _, .int z], _, p | [.int i, .str _, .int z], _, p | [.int i, .lst _, .int z], _, p | [.int i, .tup _, .int z], _, p | [.int i, .dic _, .int z], _, p => exact False.elim p.2
    | [.non, y, .int z], _, p | [.bl _, y, .int z], _, p | [.str _, y, .int z], _, p | [.lst _, y, .int z], _, p | [.tup _, y, .int z], _, p | [.dic _, y, .int z], _, p => exact False.elim p.2
    | [x, y, .non], _, p | [x, y, .bl _], _, p | [x, y, .str _], _, p | [x, y, .lst _], _, p | [x, y, .tup _], _, p | [x, y, .dic _], _, p => exact False.elim p
    | [], _, p | [_], _, p | [_, _], _, p => exact False.elim p
    | _ :: _ :: c :: _ :: _, _, p => cases c <;> exact False.elim p
end
end PL

/-! zip of two lists or two tuples: each pair told by its object. -/
namespace PL
open PySem PySem.Spec PyProof.Rows L2 RZ
def Izl (K : PySem.W.Frag) (a b : Addr) : It :=
  ⟨fun i H => ∃ (xs ys : List V) (x y : V), SqL K H a xs ∧ SqL K H b ys ∧ xs[i]? = some x ∧ ys[i]? = some y,
    fun i H v H' => ∃ T x y o, v = .ref T ∧ H T = none ∧ o.dict = none ∧ H' = upd H T (.frz o (.tup [x, y])) ∧ (∀ xs, SqL K H a xs → xs[i]? = some x) ∧ ∀ ys, SqL K H b ys → ys[i]? = some y,
    fun i H => ∃ xs ys : List V, SqL K H a xs ∧ SqL K H b ys ∧ (xs.length ≤ i ∨ ys.length ≤ i)⟩
def Izt (K : PySem.W.Frag) (a b : Addr) : It :=
  ⟨fun i H => ∃ (xs ys : List V) (x y : V), SqT K H a xs ∧ SqT K H b ys ∧ xs[i]? = some x ∧ ys[i]? = some y,
    fun i H v H' => ∃ T x y o, v = .ref T ∧ H T = none ∧ o.dict = none ∧ H' = upd H T (.frz o (.tup [x, y])) ∧ (∀ xs, SqT K H a xs → xs[i]? = some x) ∧ ∀ ys, SqT K H b ys → ys[i]? = some y,
    fun i H => ∃ xs ys : List V, SqT K H a xs ∧ SqT K H b ys ∧ (xs.length ≤ i ∨ ys.length ≤ i)⟩
theorem turn_zl {P : Program} {w : World} {K : PySem.W.Frag} {elts : List Expr} {kk : Nat} {tpos : Pos} {a b z TI TO i1 i2 : Addr} (D : ZipApart z TI TO i1 i2 a b) :
    Turn P w K (.Tuple elts kk tpos) (Izl K a b) [z, TI, TO, i1, i2] z (fun i h => IsZip h z TI TO .none ∧ IsPair h TI (.ref i1) (.ref i2) ∧ (∃ x y, IsPair h TO x y) ∧ h.IsListIter i1 a i ∧ h.IsListIter i2 b i) where
  mem := by simp
  obj := fun i h st c hc => by
    obtain ⟨hz, hTI, ⟨x, y, hTO⟩, ⟨o1, e1, _, d1⟩, ⟨o2, e2, _, d2⟩⟩ := st
    have e' : c = z ∨ c = TI ∨ c = TO ∨ c = i1 ∨ c = i2 := by simpa using hc
    rcases e' with q | q | q | q | q
    · rw [q]; exact ⟨_, hz, fun v q => nomatch q⟩
    · rw [q]; exact ⟨_, hTI, fun v q => nomatch q⟩
    · rw [q]; exact ⟨_, hTO, fun v q => nomatch q⟩
    · rw [q]; exact ⟨o1, e1, fun v q => by rw [d1] at q; cases q⟩
    · rw [q]; exact ⟨o2, e2, fun v q => by rw [d2] at q; cases q⟩
  keep := fun i h h' st k => by
    obtain ⟨hz, hTI, ⟨x, y, hTO⟩, h1, h2⟩ := st
    exact ⟨k z (by simp) _ hz, k TI (by simp) _ hTI, ⟨x, y, k TO (by simp) _ hTO⟩, h1.at fun o q => k i1 (by simp) o q, h2.at fun o q => k i2 (by simp) o q⟩
  item := by
    intro X hP hw hK hc i pins s σ H E I hf st hg
    subst hP hw hK
    obtain ⟨hz, hTI, ⟨x0, y0, hTO⟩, h1, h2⟩ := st
    obtain ⟨xs, ys, x, y, hqx, hqy, hx, hy⟩ := hg
    obtain ⟨its, rv, p, _⟩ := I.list hqx
    obtain ⟨its2, rv2, p2, _⟩ := I.list hqy
    obtain ⟨u, hu, ru⟩ := rv.get hx
    obtain ⟨u2, hu2, ru2⟩ := rv2.get hy
    have hzl : z < s.heap.objs.size := Heap.lt_size hz
    refine wpAny_pyNext_zip_item D hz hTI hTO h1 h2 p.isList p2.isList (x := u) (y := u2) (by simpa using hu) (by simpa using hu2) fun h' z' TO' h1' h2' hT hsz hk => ?_
    refine ⟨_, rfl, wpAny_letOwnedTupleGo_zip (s := { s with heap := h' }) z' fun h'' z'' sb => ?_⟩
    have hT2 : h''.get? s.heap.objs.size = some { cls := .type "tuple", data := .seq #[u, u2] } := (sb.2 _ (Nat.ne_of_gt hzl)).trans hT
    have new : ObjOk X.prog X.w (upd H s.heap.objs.size (.frz { cls := .type "tuple", data := .seq #[u, u2] } (.tup [x, y]))) h'' s.heap.objs.size (.frz { cls := .type "tuple", data := .seq #[u, u2] } (.tup [x, y])) :=
      ⟨hT2, by show 2 ≤ sizeLine; decide, [u, u2], .cons ru (.cons ru2 .nil), ⟨_, hT2, rfl, _, rfl⟩⟩
    have I1 : Inv X pins σ (upd H s.heap.objs.size (.frz { cls := .type "tuple", data := .seq #[u, u2] } (.tup [x, y]))) { s with heap := h'' } :=
      I.turnedNew (t' := s.toks) (ch := [z, TI, TO, i1, i2]) (fun c o hb q => (sb.2 c (fun q' => hb (by simp [q']))).trans (hk c o (fun q' => hb (by simp [q'])) (fun q' => hb (by simp [q'])) (fun q' => hb (by simp [q'])) (fun q' => hb (by simp [q'])) q)) hf (Nat.le_refl _) new
    refine ⟨.ref s.heap.objs.size, _, I1, rfl, ⟨_, x, y, _, rfl, I.hok.fresh (Nat.le_refl _), rfl, rfl, fun l hl => by rw [I.list_inj hl hqx]; exact hx, fun l hl => by rw [I.list_inj hl hqy]; exact hy⟩, ⟨z'', ?_, ⟨u, u2, ?_⟩, ?_, ?_⟩, fun c hcm => ?_⟩
    · exact (sb.2 _ D.TIz).trans (hk _ _ D.TIz D.TITO D.TIi1 D.TIi2 hTI)
    · exact (sb.2 _ D.TOz).trans TO'
    · exact h1'.at fun o q => (sb.2 _ D.i1z).trans q
    · exact h2'.at fun o q => (sb.2 _ D.i2z).trans q
    · have hlt : c < s.heap.objs.size := by
        have e' : c = z ∨ c = TI ∨ c = TO ∨ c = i1 ∨ c = i2 := by simpa using hcm
        rcases e' with q | q | q | q | q
        · rw [q]; exact hzl
        · rw [q]; exact Heap.lt_size hTI
        · rw [q]; exact Heap.lt_size hTO
        · rw [q]; obtain ⟨_, e1, _⟩ := h1; exact Heap.lt_size e1
        · rw [q]; obtain ⟨_, e2, _⟩ := h2; exact Heap.lt_size e2
      rw [upd_ne (Nat.ne_of_lt hlt)]
      exact (hf c hcm).1
  done := by
    intro X hP hw hK hc i pins s σ H E I hf st hg
    subst hP hw hK
    obtain ⟨hz, hTI, ⟨x0, y0, hTO⟩, h1, h2⟩ := st
    obtain ⟨xs, ys, hqx, hqy, hend⟩ := hg
    obtain ⟨its, rv, p, _⟩ := I.list hqx
    obtain ⟨its2, rv2, p2, _⟩ := I.list hqy
    have l1 := rv.length
    have l2 := rv2.length
    have he : its.toArray[i]? = none ∨ its2.toArray[i]? = none := by
      rcases hend with q | q
      · exact .inl (by simp; omega)
      · exact .inr (by simp; omega)
    exact wpAny_pyNext_zip_end (I.ok.hd hc) D hz hTI hTO h1 h2 p.isList p2.isList he fun h' hk => ⟨rfl, I.turnedL (t' := s.toks) (ch := [z, TI, TO, i1, i2]) (fun c o hb q =>
      hk c o (fun q' => hb (by simp [q'])) (fun q' => hb (by simp [q'])) (fun q' => hb (by simp [q'])) (fun q' => hb (by simp [q'])) q) hf⟩
  self := fun A i s Q E st h => wpAny_pyIter_zip st.1 h
theorem turn_zt {P : Program} {w : World} {K : PySem.W.Frag} {elts : List Expr} {kk : Nat} {tpos : Pos} {a b z TI TO i1 i2 : Addr} (D : ZipApart z TI TO i1 i2 a b) :
    Turn P w K (.Tuple elts kk tpos) (Izt K a b) [z, TI, TO, i1, i2] z (fun i h => IsZip h z TI TO .none ∧ IsPair h TI (.ref i1) (.ref i2) ∧ (∃ x y, IsPair h TO x y) ∧ h.IsTupleIter i1 a i ∧ h.IsTupleIter i2 b i) where
  mem := by simp
  obj := fun i h st c hc => by
    obtain ⟨hz, hTI, ⟨x, y, hTO⟩, ⟨o1, e1, _, d1⟩, ⟨o2, e2, _, d2⟩⟩ := st
    have e' : c = z ∨ c = TI ∨ c = TO ∨ c = i1 ∨ c = i2 := by simpa using hc
    rcases e' with q | q | q | q | q
    · rw [q]; exact ⟨_, hz, fun v q => nomatch q⟩
    · rw [q]; exact ⟨_, hTI, fun v q => nomatch q⟩
    · rw [q]; exact ⟨_, hTO, fun v q => nomatch q⟩
    · rw [q]; exact ⟨o1, e1, fun v q => by rw [d1] at q; cases q⟩
    · rw [q]; exact ⟨o2, e2, fun v q => by rw [d2] at q; cases q⟩
  keep := fun i h h' st k => by
    obtain ⟨hz, hTI, ⟨x, y, hTO⟩, h1, h2⟩ := st
    exact ⟨k z (by simp) _ hz, k TI (by simp) _ hTI, ⟨x, y, k TO (by simp) _ hTO⟩, h1.at fun o q => k i1 (by simp) o q, h2.at fun o q => k i2 (by simp) o q⟩
  item := by
    intro X hP hw hK hc i pins s σ H E I hf st hg
    subst hP hw hK
    obtain ⟨hz, hTI, ⟨x0, y0, hTO⟩, h1, h2⟩ := st
    obtain ⟨xs, ys, x, y, hqx, hqy, hx, hy⟩ := hg
    obtain ⟨its, rv, p, _⟩ := I.tuple hqx
    obtain ⟨its2, rv2, p2, _⟩ := I.tuple hqy
    obtain ⟨u, hu, ru⟩ := rv.get hx
    obtain ⟨u2, hu2, ru2⟩ := rv2.get hy
    have hzl : z < s.heap.objs.size := Heap.lt_size hz
    refine pyNext_zipT_item D hz hTI hTO h1 h2 p p2 (x := u) (y := u2) (by simpa using hu) (by simpa using hu2) fun h' z' TO' h1' h2' hT hsz hk => ?_
    refine ⟨_, rfl, wpAny_letOwnedTupleGo_zip (s := { s with heap := h' }) z' fun h'' z'' sb => ?_⟩
    have hT2 : h''.get? s.heap.objs.size = some { cls := .type "tuple", data := .seq #[u, u2] } := (sb.2 _ (Nat.ne_of_gt hzl)).trans hT
    have new : ObjOk X.prog X.w (upd H s.heap.objs.size (.frz { cls := .type "tuple", data := .seq #[u, u2] } (.tup [x, y]))) h'' s.heap.objs.size (.frz { cls := .type "tuple", data := .seq #[u, u2] } (.tup [x, y])) :=
      ⟨hT2, by show 2 ≤ sizeLine; decide, [u, u2], .cons ru (.cons ru2 .nil), ⟨_, hT2, rfl, _, rfl⟩⟩
    have I1 : Inv X pins σ (upd H s.heap.objs.size (.frz { cls := .type "tuple", data := .seq #[u, u2] } (.tup [x, y]))) { s with heap := h'' } :=
      I.turnedNew (t' := s.toks) (ch := [z, TI, TO, i1, i2]) (fun c o hb q => (sb.2 c (fun q' => hb (by simp [q']))).trans (hk c o (fun q' => hb (by simp [q'])) (fun q' => hb (by simp [q'])) (fun q' => hb (by simp [q'])) (fun q' => hb (by simp [q'])) q)) hf (Nat.le_refl _) new
    refine ⟨.ref s.heap.objs.size, _, I1, rfl, ⟨_, x, y, _, rfl, I.hok.fresh (Nat.le_refl _), rfl, rfl, fun l hl => by rw [I.tuple_inj hl hqx]; exact hx, fun l hl => by rw [I.tuple_inj hl hqy]; exact hy⟩, ⟨z'', ?_, ⟨u, u2, ?_⟩, ?_, ?_⟩, fun c hcm => ?_⟩
    · exact (sb.2 _ D.TIz).trans (hk _ _ D.TIz D.TITO D.TIi1 D.TIi2 hTI)
    · exact (sb.2 _ D.TOz).trans TO'
    · exact h1'.at fun o q => (sb.2 _ D.i1z).trans q
    · exact h2'.at fun o q => (sb.2 _ D.i2z).trans q
    · have hlt : c < s.heap.objs.size := by
        have e' : c = z ∨ c = TI ∨ c = TO ∨ c = i1 ∨ c = i2 := by simpa using hcm
        rcases e' with q | q | q | q | q
        · rw [q]; exact hzl
        · rw [q]; exact Heap.lt_size hTI
        · rw [q]; exact Heap.lt_size hTO
        · rw [q]; obtain ⟨_, e1, _⟩ := h1; exact Heap.lt_size e1
        · rw [q]; obtain ⟨_, e2, _⟩ := h2; exact Heap.lt_size e2
      rw [upd_ne (Nat.ne_of_lt hlt)]
      exact (hf c hcm).1
  done := by
    intro X hP hw hK hc i pins s σ H E I hf st hg
    subst hP hw hK
    obtain ⟨hz, hTI, ⟨x0, y0, hTO⟩, h1, h2⟩ := st
    obtain ⟨xs, ys, hqx, hqy, hend⟩ := hg
    obtain ⟨its, rv, p, _⟩ := I.tuple hqx
    obtain ⟨its2, rv2, p2, _⟩ := I.tuple hqy
    have l1 := rv.length
    have l2 := rv2.length
    have he : its.toArray[i]? = none ∨ its2.toArray[i]? = none := by
      rcases hend with q | q
      · exact .inl (by simp; omega)
      · exact .inr (by simp; omega)
    exact pyNext_zipT_end (I.ok.hd hc) D hz hTI hTO h1 h2 p p2 he fun h' hk => ⟨rfl, I.turnedL (t' := s.toks) (ch := [z, TI, TO, i1, i2]) (fun c o hb q =>
      hk c o (fun q' => hb (by simp [q'])) (fun q' => hb (by simp [q'])) (fun q' => hb (by simp [q'])) (fun q' => hb (by simp [q'])) q) hf⟩
  self := fun A i s Q E st h => wpAny_pyIter_zip st.1 h

def iZz (K : PySem.W.Frag) (ta : TA) : TI := fun σ H R => ta σ H fun vs H1 => ∃ a b xs ys, vs = [.ref a, .ref b] ∧ ((SqL K H1 a xs ∧ SqL K H1 b ys ∧ R (Izl K a b) H1) ∨ (SqT K H1 a xs ∧ SqT K H1 b ys ∧ R (Izt K a b) H1))
theorem pi_zz {X : Cx} {e e2 : Expr} {ta : TA} {p pos tpos : Pos} {elts : List Expr} {kk : Nat} (hg : Gl X "zip") (hm : X.mg "zip" = none) (ha : PA X [e, e2] ta)
    (hs : starEach [e, e2] X.env = (false, eval e X.env) :: starEach [e2] X.env := by rfl) (hpl : (backTo pos (starEach [e2] X.env)).any (·.1) = false := by rfl) :
    PI X (.Tuple elts kk tpos) (.Call (.Name "zip" p) [e, e2] [] pos) (iZz X.K ta) := by
  refine ⟨fun pins s σ H R I h => ?_⟩
  refine Call_ (ld_blt I hg hm PyProof.Rows.boot_zip (PyProof.Rows.callWith_type1 (thn (ha.run pos pins s σ H _ I h) fun us s1 ⟨vs, H1, I1, r1, q1⟩ => ?_) hs hpl))
  obtain ⟨a, b, xs, ys, ex, q1⟩ := q1
  subst ex
  cases r1 with
  | cons r rr =>
    cases rr with
    | cons r' rr =>
      cases rr
      cases r
      cases r'
      have fresh5 : ∀ c, c ∈ [s1.heap.objs.size + 4, s1.heap.objs.size + 2, s1.heap.objs.size + 3, s1.heap.objs.size, s1.heap.objs.size + 1] → FpOk X pins H1 c := fun c hcm => by
        have e' : c = s1.heap.objs.size + 4 ∨ c = s1.heap.objs.size + 2 ∨ c = s1.heap.objs.size + 3 ∨ c = s1.heap.objs.size ∨ c = s1.heap.objs.size + 1 := by simpa using hcm
        have hle : s1.heap.objs.size ≤ c := by
          rcases e' with z | z | z | z | z
          · rw [z]; exact Nat.le_add_right _ _
          · rw [z]; exact Nat.le_add_right _ _
          · rw [z]; exact Nat.le_add_right _ _
          · rw [z]; exact Nat.le_refl _
          · rw [z]; exact Nat.le_add_right _ _
        exact I1.fpOk hle (I1.hok.fresh hle)
      rcases q1 with ⟨hqx, hqy, q⟩ | ⟨hqx, hqy, q⟩
      · obtain ⟨its, rv, p1, _⟩ := I1.list hqx
        obtain ⟨its2, rv2, p2, _⟩ := I1.list hqy
        refine call_zip_2 p1.isList p2.isList fun h' hz hTI hTO h1 h2 hsz hk => wpAny_pyIter_zip hz ?_
        have I2 : Inv X pins σ H1 { s1 with heap := h' } := I1.kept (t' := s1.toks) hk
        exact ⟨s1.heap.objs.size + 4, [s1.heap.objs.size + 4, s1.heap.objs.size + 2, s1.heap.objs.size + 3, s1.heap.objs.size, s1.heap.objs.size + 1], _, _, H1, rfl, I2, turn_zl (PySem.W.ktu_apart s1.heap.objs.size a b p1.lt p2.lt), ⟨hz, hTI, ⟨_, _, hTO⟩, h1, h2⟩, fresh5, q⟩
      · obtain ⟨its, rv, p1, _⟩ := I1.tuple hqx
        obtain ⟨its2, rv2, p2, _⟩ := I1.tuple hqy
        obtain ⟨o1, ho1, _⟩ := id p1
        obtain ⟨o2, ho2, _⟩ := id p2
        refine call_zipT (show s1.heap.IsTuple a its.toArray from p1) (show s1.heap.IsTuple b its2.toArray from p2) fun h' hz hTI hTO h1 h2 hsz hk => wpAny_pyIter_zip hz ?_
        have I2 : Inv X pins σ H1 { s1 with heap := h' } := I1.kept (t' := s1.toks) hk
        exact ⟨s1.heap.objs.size + 4, [s1.heap.objs.size + 4, s1.heap.objs.size + 2, s1.heap.objs.size + 3, s1.heap.objs.size, s1.heap.objs.size + 1], _, _, H1, rfl, I2, turn_zt (PySem.W.ktu_apart s1.heap.objs.size a b (Heap.lt_size ho1) (Heap.lt_size ho2)), ⟨hz, hTI, ⟨_, _, hTO⟩, h1, h2⟩, fresh5, q⟩
end PL

/-! for x, y in zip(a, b) -/
namespace PL
open PySem PySem.Spec L2
def zT (p : D × D) : D := .tup [p.1, p.2]
theorem zT_inj (a b : D × D) (h : zT a = zT b) : a = b := by
  have q := D.tup.inj h
  have q1 := (List.cons.inj q).1
  have q2 := (List.cons.inj (List.cons.inj q).2).1
  exact Prod.ext q1 q2
theorem setT_z (i j : Nat) (p : D × D) (ρ : Env) : setT (.tp [.nm i, .nm j]) (zT p) ρ = bnd (ret p) fun a => ret ((ρ.set i (.d a.1)).set j (.d a.2)) := by
  unfold zT
  rw [setT_tp2]
  rfl
def zipD : D → D → W (List (D × D))
  | .lst xs, .lst ys => ret (xs.zip ys)
  | .tup xs, .tup ys => ret (xs.zip ys)
  | _, _ => stuck
section
variable {G : PenK} {K : PySem.W.Frag} {S : Addr → Prop} {H : Hp} {a b : Addr} {xs ys : List D} {vs ws : List V}
theorem zip_at {i : Nat} (hi : i < (xs.zip ys).length) : i < xs.length ∧ i < ys.length := by
  rw [List.length_zip] at hi
  omega
theorem walks_zl (h : RdL S H a vs) (r : Reps K S H xs vs) (h' : RdL S H b ws) (r' : Reps K S H ys ws) : Walks G K (Izl K a b) S H ((xs.zip ys).map zT) := fun c ρ σ H2 n i g I => by
  have h2 := h.grow g
  have h2' := h'.grow g
  have r2 := Reps.grow g _ _ r
  have r2' := Reps.grow g _ _ r'
  rw [List.length_map]
  refine ⟨fun hi => ?_, fun hi => ⟨vs, ws, h2.sq, h2'.sq, by rw [r2.len, r2'.len]; rw [List.length_zip] at hi; omega⟩⟩
  obtain ⟨l1, l2⟩ := zip_at hi
  have hx : xs[i]? = some xs[i] := List.getElem?_eq_getElem l1
  have hy : ys[i]? = some ys[i] := List.getElem?_eq_getElem l2
  obtain ⟨v, e1, e2⟩ := Reps.at r2 hx
  obtain ⟨w, e3, e4⟩ := Reps.at r2' hy
  refine ⟨⟨vs, ws, v, w, h2.sq, h2'.sq, e1, e3⟩, fun u H' ⟨T, x, y, o, eu, hT, od, eH, y1, y2⟩ => ?_⟩
  have ex := y1 vs h2.sq
  have ey := y2 ws h2'.sq
  rw [e1] at ex
  rw [e3] at ey
  cases ex
  cases ey
  subst eu eH
  obtain ⟨IS, gS⟩ := I.laid (o := .frz o (.tup [v, w])) hT
  exact ⟨_, .tup [xs[i], ys[i]], gS, IS, by rw [List.getElem?_map, List.getElem?_eq_getElem hi, List.getElem_zip]; rfl, T, [v, w], rfl, .inl ⟨.inr rfl, o, upd_same, od⟩, (by show 2 ≤ sizeLine; decide), _, _, rfl, Rep.grow gS _ _ e2, _, _, rfl, Rep.grow gS _ _ e4, rfl⟩
theorem walks_zt (h : RdT K S H a vs) (r : Reps K S H xs vs) (h' : RdT K S H b ws) (r' : Reps K S H ys ws) : Walks G K (Izt K a b) S H ((xs.zip ys).map zT) := fun c ρ σ H2 n i g I => by
  have h2 := h.grow g
  have h2' := h'.grow g
  have r2 := Reps.grow g _ _ r
  have r2' := Reps.grow g _ _ r'
  rw [List.length_map]
  refine ⟨fun hi => ?_, fun hi => ⟨vs, ws, h2.sq, h2'.sq, by rw [r2.len, r2'.len]; rw [List.length_zip] at hi; omega⟩⟩
  obtain ⟨l1, l2⟩ := zip_at hi
  have hx : xs[i]? = some xs[i] := List.getElem?_eq_getElem l1
  have hy : ys[i]? = some ys[i] := List.getElem?_eq_getElem l2
  obtain ⟨v, e1, e2⟩ := Reps.at r2 hx
  obtain ⟨w, e3, e4⟩ := Reps.at r2' hy
  refine ⟨⟨vs, ws, v, w, h2.sq, h2'.sq, e1, e3⟩, fun u H' ⟨T, x, y, o, eu, hT, od, eH, y1, y2⟩ => ?_⟩
  have ex := y1 vs h2.sq
  have ey := y2 ws h2'.sq
  rw [e1] at ex
  rw [e3] at ey
  cases ex
  cases ey
  subst eu eH
  obtain ⟨IS, gS⟩ := I.laid (o := .frz o (.tup [v, w])) hT
  exact ⟨_, .tup [xs[i], ys[i]], gS, IS, by rw [List.getElem?_map, List.getElem?_eq_getElem hi, List.getElem_zip]; rfl, T, [v, w], rfl, .inl ⟨.inr rfl, o, upd_same, od⟩, (by show 2 ≤ sizeLine; decide), _, _, rfl, Rep.grow gS _ _ e2, _, _, rfl, Rep.grow gS _ _ e4, rfl⟩
end
section
variable {G : PenK} {X : Cx} {Wx : WX}
theorem w_zipZ {elts : List Expr} {kk : Nat} {tpos p pos : Pos} {a b : Expr} {ga gb : Env → W D} (hm : X.mg "zip" = none) (ha : E G X Wx a ga) (hb : E G X Wx b gb) (hg : Gl X "zip" := by rfl)
    (hs : starEach [a, b] X.env = (false, eval a X.env) :: starEach [b] X.env := by rfl) (hs2 : starEach [b] X.env = (false, eval b X.env) :: starEach [] X.env := by rfl) (hpl : (backTo pos (starEach [b] X.env)).any (·.1) = false := by rfl) :
    Wk G X Wx (.Tuple elts kk tpos) (.Call (.Name "zip" p) [a, b] [] pos) (fun ρ => bnd (bnd (ga ρ) fun x => bnd (gb ρ) fun y => zipD x y) fun ps => ret (ps.map zT)) :=
  weakI (pi_zz hg hm (a_cons ha (a_cons hb a_nil hs2) hs) hs hpl) fun σ H R ⟨c, ρ, n, P, PX, I, q, hgo, hx⟩ => by
    let F : List D → W (List D) := fun ds => match ds with
      | [x, y] => bnd (zipD x y) fun ps => ret (ps.map zT)
      | _ => stuck
    have e : (bnd (bnd (ga ρ) fun x => bnd (gb ρ) fun y => zipD x y) fun ps => ret (ps.map zT) : W (List D)) = bnd (bnd (ga ρ) fun x => bnd (bnd (gb ρ) fun x => bnd (ret []) fun xs => ret (x :: xs)) fun xs => ret (x :: xs)) F := by
      simp only [bnd_bnd, bnd_ret]
      rfl
    have q : bnd (bnd (ga ρ) fun x => bnd (gb ρ) fun y => zipD x y) (fun ps => ret (ps.map zT)) n P PX := q
    rw [e] at q
    refine tAr.bnd (g := fun ρ => bnd (ga ρ) fun x => bnd (bnd (gb ρ) fun x => bnd (ret []) fun xs => ret (x :: xs)) fun xs => ret (x :: xs)) (f := F) I q hx fun ds k us S' H' p g I' hx' r => ?_
    match ds, r, p with
    | [.lst xs, .lst ys], r, p =>
      obtain ⟨v, w, rfl, ⟨a1, vs, rfl, r1, _, q1⟩, ⟨a2, ws, rfl, r2, _, q2⟩⟩ := r.two_inv
      exact ⟨a1, a2, vs, ws, rfl, .inl ⟨r1.sq, r2.sq, hgo _ k S' H' _ p g I' (walks_zl r1 q1 r2 q2)⟩⟩
    | [.tup xs, .tup ys], r, p =>
      obtain ⟨v, w, rfl, ⟨a1, vs, rfl, r1, _, q1⟩, ⟨a2, ws, rfl, r2, _, q2⟩⟩ := r.two_inv
      exact ⟨a1, a2, vs, ws, rfl, .inr ⟨r1.sq, r2.sq, hgo _ k S' H' _ p g I' (walks_zt r1 q1 r2 q2)⟩⟩
    | [.lst xs, .tup _], _, p | [.lst xs, .non], _, p | [.lst xs, .bl _], _, p | [.lst xs, .int _], _, p | [.lst xs, .str _], _, p | [.lst xs, .dic _], _, p => exact False.elim p
    | [.tup xs, .lst _], _, p | [.tup xs, .non], _, p | [.tup xs, .bl _], _, p | [.tup xs, .int _], _, p | [.tup xs, .str _], _, p | [.tup xs, .dic _], _, p => exact False.elim p
    | [.non, y], _, p | [.bl _, y], _, p | [.int _, y], _, p | [.str _, y], _, p | [.dic _, y], _, p => exact False.elim p
    | [], _, p | [_], _, p | _ :: _ :: _ :: _, _, p => exact False.elim p
end
end PL

/-! x += e of ints; sum, max, min of ints. -/
namespace PL
open PySem PySem.Spec L2
def addI : D → D → W Int
  | .int i, .int j => ret (i + j)
  | _, _ => stuck
section
variable {G : PenK} {X : Cx} {Wx : WX} {γ : Type} {En : Enz γ} {ρ : Env} {rest : List Stmt} {m : W γ}
theorem s_augI {x : Str} {px pos : Pos} {e : Expr} {g : Env → W D} (i : Nat) (h : E G X Wx e g) (hN : X.N.Nodup) (hi : X.N[i]? = some x) (hx : Loc X.env.scope x) (hf : X.fn x = true ∨ X.env.scope.names.lookup x = some .local) :
    St1 G X Wx (.AugAssign (.Name x px) .Add e pos) (fun ρ => bnd (bnd (nm ρ i) fun old => bnd (g ρ) fun d => addI old d) fun z => ret (.nx (ρ.set i (.d (.int z))))) :=
  weakS (ps_aug hN hi hx h ip_add hf) fun Dn σ H ⟨c, ρ, n, P, PX, I, q, hg, hxx⟩ => by
    obtain ⟨old, e1, q⟩ := nm_inv (show bnd (nm ρ i) (fun old => bnd (g ρ) fun d => bnd (addI old d) fun z => ret (Out.nx (ρ.set i (.d (.int z))))) n P PX from q)
    obtain ⟨v, e2, r⟩ := I.slots i _ e1
    refine ⟨v, slot_some e2, tE.bnd (α := Out) (P := P) (f := fun d => bnd (addI old d) fun z => ret (Out.nx (ρ.set i (.d (.int z))))) I q hxx.x fun d k u S' H' p gr I' hx' r' => ?_⟩
    cases old with
    | int a =>
      cases d with
      | int b =>
        cases r
        cases r'
        exact ⟨a, b, rfl, rfl, hg.1 _ k _ S' H' p gr (I'.set (i := i) (d := .int (a + b)) (v := .int (a + b)) rfl)⟩
      | _ => exact False.elim p
    | _ => exact False.elim p
theorem sg_augI {x : Str} {px pos : Pos} {e : Expr} {g : Env → W D} {m0 : W Int} {k : Int → W γ} {ρ' : Int → Env} (i L : Nat) (h : E G X Wx e g) (hN : X.N.Nodup) (hg : (bnd (nm ρ i) fun old => bnd (g ρ) fun d => addI old d) = m0) (hL : ρ.length = L) (hiL : i < L) (hρ : ∀ a, ρ.set i (.d (.int a)) = ρ' a) (hr : ∀ a, SG G X Wx rest (ρ' a) En (k a))
    (hi : X.N[i]? = some x := by rfl) (hx : Loc X.env.scope x := by first | exact Or.inl rfl | exact Or.inr rfl) (hf : X.fn x = true ∨ X.env.scope.names.lookup x = some .local := by first | exact .inl rfl | exact .inr rfl) : SG G X Wx (.AugAssign (.Name x px) .Add e pos :: rest) ρ En (bnd m0 k) :=
  sg_stmt (s_augI i h hN hi hx hf) (by rw [hg]) (set_inj (lt_lit hL hiL) fun _ _ h => D.int.inj h) fun a => by rw [hρ]; exact hr a
theorem sg_augIP {x : Str} {px pos : Pos} {e : Expr} {g : Env → W D} {z : Int} {ρ' : Env} (i : Nat) (h : E G X Wx e g) (hN : X.N.Nodup) (hg : (bnd (nm ρ i) fun old => bnd (g ρ) fun d => addI old d) = ret z) (hρ : ρ.set i (.d (.int z)) = ρ') (hr : SG G X Wx rest ρ' En m)
    (hi : X.N[i]? = some x := by rfl) (hx : Loc X.env.scope x := by first | exact Or.inl rfl | exact Or.inr rfl) (hf : X.fn x = true ∨ X.env.scope.names.lookup x = some .local := by first | exact .inl rfl | exact .inr rfl) : SG G X Wx (.AugAssign (.Name x px) .Add e pos :: rest) ρ En m :=
  sg_stmt (m0 := ret ()) (e := fun _ => ρ.set i (.d (.int z))) (k := fun _ => m) (s_augI i h hN hi hx hf) (by rw [hg]; rfl) (fun _ _ _ => rfl) fun _ => by rw [hρ]; exact hr
end
/-! ### sums -/
def intsL : List D → Option (List Int)
  | [] => some []
  | .int i :: r => (intsL r).map fun l => i :: l
  | _ => none
def sumW : D → W Int
  | .lst xs => bnd (optW (intsL xs)) fun l => ret l.sum
  | _ => stuck
theorem reps_ints {K : PySem.W.Frag} {S : Addr → Prop} {H : Hp} : ∀ {xs : List D} {vs : List V} {l : List Int}, Reps K S H xs vs → intsL xs = some l → vs = l.map V.int
  | [], _, _, h, e => by
    have e0 : _ = [] := h
    rw [e0]
    cases e
    rfl
  | .int i :: xs, _, l, h, e => by
    obtain ⟨v, ws, rfl, r, q⟩ := h
    have e : (intsL xs).map (fun l => i :: l) = some l := e
    cases es : intsL xs with
    | none => rw [es] at e; cases e
    | some l2 =>
      rw [es] at e
      cases e
      cases r
      rw [reps_ints q es]
      rfl
  | .non :: _, _, _, _, e => by cases e
  | .bl _ :: _, _, _, _, e => by cases e
  | .str _ :: _, _, _, _, e => by cases e
  | .lst _ :: _, _, _, _, e => by cases e
  | .tup _ :: _, _, _, _, e => by cases e
  | .dic _ :: _, _, _, _, e => by cases e
section
variable {G : PenK} {X : Cx} {Wx : WX}
theorem e_sum {p pos : Pos} {e : Expr} {g : Env → W D} (hc : X.calm = true) (hm : X.mg "sum" = none) (h : E G X Wx e g) (hg : Gl X "sum" := by rfl) (he : starEach [e] X.env = (false, eval e X.env) :: starEach [] X.env := by rfl) :
    E G X Wx (.Call (.Name "sum" p) [e] [] pos) (fun ρ => bnd (g ρ) fun d => bnd (sumW d) fun i => ret (.int i)) :=
  e_b1 hm (by decide +kernel) (cr_sum hc) (r := fun x H Q => ∃ (a : Addr) (ns : List Int), x = V.ref a ∧ SqL X.K H a (ns.map V.int) ∧ Q (.int ns.sum) H) (by
    intro c σ ρ H n P PX d v Q I r q hg hx
    cases d with
    | lst xs =>
      obtain ⟨a, vs, rfl, r1, z, q1⟩ := r
      obtain ⟨l, el, q⟩ := optW_inv (show optW (intsL xs) n (fun l k => P (.int l.sum) k) PX from q)
      obtain rfl := reps_ints q1 el
      exact ⟨a, l, rfl, r1.sq, hg.at (d := .int l.sum) q I rfl⟩
    | _ => exact False.elim q) (fun x H Q ⟨a, ns, e, h⟩ => ⟨a, ns, by rw [e], h⟩) h hg (by decide) (by decide) he (by rfl)
end
end PL

/-! a law's def over any source of draws. -/
namespace PL
open PySem PySem.Spec PyProof.Rows L2
/-- the source is made of the script -/
def spFeedK (G : PenK) (K : PySem.W.Frag) : Sp := fun vs H Q _ => ∃ (a : Addr) (ns : List Int), vs = [.ref a] ∧ SqL K H a (ns.map V.int) ∧ ns.length ≤ 63 ∧ ∀ H' p b, G.inv H' p b 0 → (∀ P ps, H P = some (.tbl ps) → H' P = some (.tbl ps)) → Q (.ref p) H'
/-- what the law's def promises, its tables of code objects empty at first -/
def spLawT (K : PySem.W.Frag) (T : List (Addr × Str)) : Sp := fun vs H Q _ => ∃ (a : Addr) (ns : List Int), vs = [.ref a] ∧ SqL K H a (ns.map V.int) ∧ ns.length ≤ 63 ∧ (∀ q ∈ T, H q.1 = some (.tbl #[])) ∧ ∀ H', Q (.bl true) H'
theorem law_defKC (G : PenK) {P : Program} {w : World} {K : PySem.W.Frag} {mg : Str → Option Value} {base : Heap} {k : Nat} {f ff : Addr} {fd fdf : FuncData} {st : Stmt} {N NR : List Str} {fn x0 x1 : Str} {px p p2 p3 px' : Pos} {rest : List Stmt} {b : W D} (F : Fun K "law" "law" st f fd) (S : FnScope N [x0] (defScope st))
    (hst : defBody st = .Assign [.Name x1 px] (.Call (.Name fn p) [.Name x0 p2] [] p3) px' :: rest) (hN : N = x0 :: x1 :: NR) (hf : (defScope st).names.lookup fn = some .globalImplicit) (hx0 : (defScope st).names.lookup x0 = some .local) (hx1 : Loc (defScope st) x1)
    (hd0 : (x0 == ("__debug__" : Str)) = false) (hc0 : (x0 == ("__classdict__" : Str)) = false) (hdf : (fn == ("__debug__" : Str)) = false)
    (GF : FnG P w K mg base k ff fdf [x0] (spFeedK G K)) (gF : mg fn = some (.ref ff)) (kF : PySem.W.keepIn K (.ref ff) = true) (bF : Binds K fdf [x0] [])
    (body : ∀ (cdv : Value) (A : Around) (outer : List PySem.Env) (s : Shared) (H : Hp) (E : XK) (Wx : WX), fd.code = cdv → A.guards = some [] → Room k (A.deeper (envOfC "law" (defScope st) s.heap.objs.size f cdv)) → Takes (cxOf (L2.CX P w) P w K mg base N "law" (defScope st) f cdv A outer s H E) Wx →
      PassesOwn (model P w) (A.deeper (envOfC "law" (defScope st) s.heap.objs.size f cdv)) (envOfC "law" (defScope st) s.heap.objs.size f cdv) (cxOf (L2.CX P w) P w K mg base N "law" (defScope st) f cdv A outer s H E).xe → SG G (cxOf (L2.CX P w) P w K mg base N "law" (defScope st) f cdv A outer s H E) Wx rest (.un :: .pen :: List.replicate NR.length .un) EnT b)
    (holds : b n0 (fun d _ => d = .bl true) (fun _ _ => False)) : FnG P w K mg base (k + 1) f fd [x0] (spLawT K G.tab) := by
  subst hN
  refine FnG.of_bodyC F S (fun vs H Q E ⟨a, ns, e, _⟩ => by rw [e]; rfl) fun cdv A outer s H vs Q E hcc hg hr ⟨a, ns, e, hS, hl, htb, q⟩ => ?_
  subst e
  have hb := body cdv A outer s H E (fun cls d _ H => E cls d H) hcc hg hr (L2.takes_of rfl rfl rfl rfl) (passes_of rfl)
  rw [hst]
  refine ⟨_, pss_cons (ps_set (i := 1) S.nd rfl hx1 (pe_callG (Wx := fun cls d _ H => E cls d H) GF hg hr (L2.takes_of rfl rfl rfl rfl) hf gF kF bF (pa_cons (pe_var (i := 0) rfl (.inl hx0) hd0 hc0) pa_nil) hdf)) hb, ?_⟩
  refine ⟨.ref a, rfl, a, ns, rfl, hS, hl, fun H' p b gp ktb => ?_⟩
  have hlen : (L2.start (x0 :: x1 :: NR) [V.ref a]).set 1 (some (.ref p)) = some (.ref a) :: some (.ref p) :: List.replicate NR.length none := by
    unfold L2.start
    show (some (V.ref a) :: (List.replicate ((NR.length + 1 + 1) - 1) none)).set 1 _ = _
    rw [Nat.add_sub_cancel, List.replicate_succ]
    rfl
  have tb : ∀ q ∈ G.tab, H' q.1 ≠ none ∧ TabI (fun _ => False) H' q.1 q.2 := fun q hq => by
    have e := ktb _ _ (htb q hq)
    refine ⟨(by rw [e]; exact fun z => (nomatch z)), #[], e, True.intro, fun pos cv z => ?_⟩
    have z : codeAmong pos [] = some cv := z
    simp [codeAmong] at z
  show tG G _ _ _ _ _ _ ((L2.start (x0 :: x1 :: NR) [V.ref a]).set 1 (some (.ref p))) H'
  rw [hlen]
  refine ⟨⟨fun _ => False, H', some (p, b), fun a => H' a ≠ none, fun _ => False⟩, n0, _, _, ⟨by simp, fun i sv e => ?_, fun i sv x e ho => ?_, fun i j sv sv' x _ e _ ho => ?_, fun _ h => h.elim, fun _ _ e _ => e, fun z e => ?_, fun _ h => ⟨fun z => z, h⟩, (fun q hq => tb q hq), (fun _ _ e => nomatch e), fun _ h => h.elim, fun _ _ => rfl⟩, holds, ⟨?_, ?_, fun _ _ _ _ _ _ z => z.elim, fun _ _ _ _ _ _ z => z.elim⟩, fun _ _ _ _ _ _ _ _ z => z.elim⟩
  · match i, e with
    | 0, e => cases e; trivial
    | 1, e => cases e; exact ⟨(p, b), rfl, rfl⟩
    | i + 2, e =>
      have e : (List.replicate NR.length SV.un)[i]? = some sv := e
      rw [List.getElem?_replicate] at e
      split at e
      · cases e; trivial
      · cases e
  · exfalso
    match i, e with
    | 0, e => cases e; cases ho
    | 1, e => cases e; cases ho
    | i + 2, e =>
      have e : (List.replicate NR.length SV.un)[i]? = some sv := e
      rw [List.getElem?_replicate] at e
      split at e
      · cases e; cases ho
      · cases e
  · exfalso
    match i, e with
    | 0, e => cases e; cases ho
    | 1, e => cases e; cases ho
    | i + 2, e =>
      have e : (List.replicate NR.length SV.un)[i]? = some sv := e
      rw [List.getElem?_replicate] at e
      split at e
      · cases e; cases ho
      · cases e
  · cases e
    exact ⟨gp, fun z => z, fun z => z, (G.there gp).1, (G.there gp).2⟩
  · rintro ρ' _ k σ' S' H2 rfl p g I
    exact nomatch (show D.non = D.bl true from p)
  · rintro d _ k v σ' ρ' S' H2 rfl p g I r
    have p : d = D.bl true := p
    subst p
    cases r
    exact q H2
/-- .. of a law without tables -/
theorem law_defK (G : PenK) {P : Program} {w : World} {K : PySem.W.Frag} {mg : Str → Option Value} {base : Heap} {k : Nat} {f ff : Addr} {fd fdf : FuncData} {st : Stmt} {N NR : List Str} {fn x0 x1 : Str} {px p p2 p3 px' : Pos} {rest : List Stmt} {b : W D} (F : Fun K "law" "law" st f fd) (S : FnScope N [x0] (defScope st))
    (hst : defBody st = .Assign [.Name x1 px] (.Call (.Name fn p) [.Name x0 p2] [] p3) px' :: rest) (hN : N = x0 :: x1 :: NR) (hf : (defScope st).names.lookup fn = some .globalImplicit) (hx0 : (defScope st).names.lookup x0 = some .local) (hx1 : Loc (defScope st) x1)
    (hd0 : (x0 == ("__debug__" : Str)) = false) (hc0 : (x0 == ("__classdict__" : Str)) = false) (hdf : (fn == ("__debug__" : Str)) = false)
    (GF : FnG P w K mg base k ff fdf [x0] (spFeedK G K)) (gF : mg fn = some (.ref ff)) (kF : PySem.W.keepIn K (.ref ff) = true) (bF : Binds K fdf [x0] [])
    (body : ∀ (cdv : Value) (A : Around) (outer : List PySem.Env) (s : Shared) (H : Hp) (E : XK) (Wx : WX), A.guards = some [] → Room k (A.deeper (envOfC "law" (defScope st) s.heap.objs.size f cdv)) → Takes (cxOf (L2.CX P w) P w K mg base N "law" (defScope st) f cdv A outer s H E) Wx →
      PassesOwn (model P w) (A.deeper (envOfC "law" (defScope st) s.heap.objs.size f cdv)) (envOfC "law" (defScope st) s.heap.objs.size f cdv) (cxOf (L2.CX P w) P w K mg base N "law" (defScope st) f cdv A outer s H E).xe → SG G (cxOf (L2.CX P w) P w K mg base N "law" (defScope st) f cdv A outer s H E) Wx rest (.un :: .pen :: List.replicate NR.length .un) EnT b)
    (holds : b n0 (fun d _ => d = .bl true) (fun _ _ => False)) (hG : G.tab = [] := by rfl) : FnG P w K mg base (k + 1) f fd [x0] (spLaw K) :=
  (law_defKC G F S hst hN hf hx0 hx1 hd0 hc0 hdf GF gF kF bF (fun cdv A outer s H E Wx _ => body cdv A outer s H E Wx) holds).imp fun vs H Q E ⟨a, ns, e, hS, hl, q⟩ => ⟨a, ns, e, hS, hl, fun q hq => (by rw [hG] at hq; cases hq), q⟩
end PL

/-! d.pop(k), d.pop(k, x) as statements; k in d. -/
namespace PL
open PySem PySem.Spec L2
def dropD (kvs : List (Key × D)) (k : Key) : List (Key × D) := kvs.filter fun kv => decide (kv.1 ≠ k)
theorem RepK.drop {K : PySem.W.Frag} {S : Addr → Prop} {H : Hp} : ∀ {kvs : List (Key × D)} {kws : List (Key × V)} (k : Key), RepK K S H kvs kws → RepK K S H (dropD kvs k) (dropK kws k)
  | [], _, k, h => by
    have e : _ = [] := h
    rw [e]
    rfl
  | (j, x) :: xs, _, k, h => by
    obtain ⟨v, ws, rfl, r, q⟩ := h
    have ih := RepK.drop k q
    unfold dropD dropK at ih ⊢
    rw [List.filter_cons, List.filter_cons]
    by_cases e : j = k
    · simp only [e, ne_eq, not_true_eq_false, decide_false, Bool.false_eq_true, if_false]
      simpa using ih
    · simp only [ne_eq, e, not_false_eq_true, decide_true, if_true]
      exact ⟨v, _, rfl, r, by simpa using ih⟩
def popW (kvs : List (Key × D)) (k : D) : W (List (Key × D)) := bnd (optW (keyD k)) fun kk => bnd (optW (valD kvs kk)) fun _ => ret (dropD kvs kk)
def pop2W (kvs : List (Key × D)) (k : D) : W (List (Key × D)) := bnd (optW (keyD k)) fun kk => ret (match valD kvs kk with | some _ => dropD kvs kk | none => kvs)
def inW (kvs : List (Key × D)) (k : D) : W Bool := bnd (optW (keyD k)) fun kk => ret (valD kvs kk).isSome
section
variable {G : PenK} {X : Cx} {Wx : WX} {γ : Type} {En : Enz γ} {ρ : Env} {rest : List Stmt} {m : W γ}
theorem s_pop {x : Str} {px pa pc pos : Pos} {e : Expr} {g : Env → W D} (i : Nat) (h : E G X Wx e g) (hN : X.N[i]? = some x) (hv : Vis X.env.scope x) (hd : (x == ("__debug__" : Str)) = false) (hcd : (x == ("__classdict__" : Str)) = false)
    (mm : M1 X (.Name x px) "pop" pa e pc) (hs : swapsWith (.Call (.Attribute (.Name x px) "pop" pa) [e] [] pc) none pos.line X.env = pure false) :
    St1 G X Wx (.Expr (.Call (.Attribute (.Name x px) "pop" pa) [e] [] pc) pos) (fun ρ => ownKAt ρ i fun xs => bnd (bnd (g ρ) (popW xs)) fun ys => ret (.nx (ρ.set i (.ownK ys)))) :=
  weakS (ps_expr (pe_dpop1 (pe_var hN hv hd hcd) h mm) hs) fun Dn σ H ⟨c, ρ, n, P, PX, I, q, hg, hx⟩ => by
    obtain ⟨xs, e1, q⟩ := ownKAt_inv q
    obtain ⟨a, vs, e2, e3, r⟩ := I.slots i _ e1
    refine ⟨.ref a, slot_some e2, a, rfl, .inl ⟨vs, .inl e3⟩, tE.bnd (α := Out) (P := P) (f := fun k => bnd (popW xs k) fun ys => ret (Out.nx (ρ.set i (.ownK ys)))) I q hx.x fun d k v S' H' p g I' hx' r' => ?_⟩
    obtain ⟨a', vs', e4, e5, r2⟩ := I'.slots i _ e1
    rw [e2] at e4
    cases e4
    obtain ⟨kk, ek, p⟩ := optW_inv (show optW (keyD d) k (fun kk k => bnd (optW (valD xs kk)) (fun _ => bnd (ret (dropD xs kk)) fun ys => ret (Out.nx (ρ.set i (.ownK ys)))) k P PX) PX from p)
    obtain ⟨y, ey, p⟩ := optW_inv (show optW (valD xs kk) k (fun _ k => P (Out.nx (ρ.set i (.ownK (dropD xs kk)))) k) PX from p)
    obtain rfl := keyD_rep ek r'
    rcases RepK.find kk r2 with ⟨z, _⟩ | ⟨y2, v2, z1, z2, _⟩
    · rw [z] at ey; cases ey
    · obtain ⟨I3, g3⟩ := I'.mutK e1 e2 (ys := dropD xs kk) (vs := dropK vs' kk) (RepK.drop kk r2)
      exact ⟨vs', kk, v2, e5, rfl, z2, hg.1 _ k σ _ _ p (g.trans g3) I3⟩
theorem sg_pop {x : Str} {px pa pc pos : Pos} {e : Expr} {g : Env → W D} {xs : List (Key × D)} {m0 : W (List (Key × D))} {kk : List (Key × D) → W γ} {ρ' : List (Key × D) → Env} (i L : Nat) (h : E G X Wx e g) (hx : ρ[i]? = some (.ownK xs)) (hg : bnd (g ρ) (popW xs) = m0) (hL : ρ.length = L) (hi : i < L) (hρ : ∀ a, ρ.set i (.ownK a) = ρ' a) (hr : ∀ a, SG G X Wx rest (ρ' a) En (kk a))
    (hN : X.N[i]? = some x := by rfl) (hv : Vis X.env.scope x := by first | exact Or.inl rfl | exact Or.inr (Or.inl rfl) | exact Or.inr (Or.inr rfl)) (hd : (x == ("__debug__" : Str)) = false := by decide) (hcd : (x == ("__classdict__" : Str)) = false := by decide)
    (mm : M1 X (.Name x px) "pop" pa e pc := by exact ⟨by rfl, by rfl, by rfl, by rfl⟩) (hs : swapsWith (.Call (.Attribute (.Name x px) "pop" pa) [e] [] pc) none pos.line X.env = pure false := by rfl) :
    SG G X Wx (.Expr (.Call (.Attribute (.Name x px) "pop" pa) [e] [] pc) pos :: rest) ρ En (bnd m0 kk) :=
  sg_stmt (s_pop i h hN hv hd hcd mm hs) (by
    unfold ownKAt
    rw [hx, ← hg]) (ownK_inj (f := fun a => a) (lt_lit hL hi) fun _ _ h => h) fun a => by rw [hρ]; exact hr a
end
section
variable {G : PenK} {X : Cx} {Wx : WX}
theorem din_law {k d : Expr} {gk gd : Env → W D} {σ : L2.St} {H : Hp} {Q : Bool → Hp → Prop} (q : tT G X Wx (fun ρ => bnd (gk ρ) fun k => bnd (gd ρ) fun x => bnd (dicW x) fun kvs => inW kvs k) σ H Q) : tDIn (tE G X Wx gk) (tE G X Wx gd) σ H (fun v H' => ∃ b, v = .bl b ∧ Q b H') := by
  obtain ⟨c, ρ, n, P, PX, I, q, hg, hx⟩ := q
  refine tE.bnd I q hx fun k k1 u S1 H1 p g I1 hx1 r1 => tE.bnd I1 p hx1 fun x k2 v S2 H2 p2 g2 I2 hx2 r2 => ?_
  cases x with
  | dic kvs =>
    obtain ⟨a, kws, rfl, ⟨hS, rd⟩, rk⟩ := r2
    obtain ⟨kk, ek, p2⟩ := optW_inv (show optW (keyD k) k2 (fun kk k => P (valD kvs kk).isSome k) PX from p2)
    obtain rfl := keyD_rep ek r1
    refine ⟨a, valV kws kk, rfl, .inl ⟨kws, kk, rd, rfl, rfl⟩, _, rfl, ?_⟩
    have e : (valV kws kk).isSome = (valD kvs kk).isSome := by
      rcases RepK.find kk rk with ⟨z1, z2⟩ | ⟨y, w, z1, z2, _⟩ <;> rw [z1, z2] <;> rfl
    rw [e]
    exact hg _ k2 S2 H2 p2 (g.trans g2) I2
  | _ => exact False.elim p2
theorem t_inD {k d : Expr} {pos : Pos} {gk gd : Env → W D} (hu : X.A.units + 1 < cLine) (hk : E G X Wx k gk) (hd : E G X Wx d gd) (hm : behindInMarks .In d = false := by rfl) :
    T G X Wx (.Compare k [.In] [d] pos) (fun ρ => bnd (gk ρ) fun k => bnd (gd ρ) fun x => bnd (dicW x) fun kvs => inW kvs k) :=
  weakT (pt_cmp (pc_din hu hk hd) hm) fun σ H Q q => din_law (k := k) (d := d) q
theorem e_inD {k d : Expr} {pos : Pos} {gk gd : Env → W D} (hu : X.A.units + 1 < cLine) (hk : E G X Wx k gk) (hd : E G X Wx d gd) (hm : behindInMarks .In d = false := by rfl) :
    E G X Wx (.Compare k [.In] [d] pos) (fun ρ => bnd (gk ρ) fun k => bnd (gd ρ) fun x => bnd (dicW x) fun kvs => bnd (inW kvs k) fun b => ret (.bl b)) :=
  weakE (pe_cmp (pc_din hu hk hd) hm) fun σ H Q ⟨c, ρ, n, P, PX, I, q, hg, hx⟩ => by
    have z : tDIn (tE G X Wx gk) (tE G X Wx gd) σ H (fun v H' => ∃ b, v = .bl b ∧ Q (.bl b) H') := din_law (k := k) (d := d) ⟨c, ρ, n, fun b k => P (.bl b) k, PX, I, q, fun b k S' H' p g I' => hg (.bl b) k (.bl b) S' H' p g I' rfl, hx⟩
    obtain ⟨c1, ρ1, n1, P1, PX1, I1, q1, hg1, hx1⟩ := z
    exact ⟨c1, ρ1, n1, P1, PX1, I1, q1, fun d k v S' H' p g I' r => by
      have w := hg1 d k v S' H' p g I' r
      obtain ⟨c2, ρ2, n2, P2, PX2, I2, q2, hg2, hx2⟩ := w
      exact ⟨c2, ρ2, n2, P2, PX2, I2, q2, fun d k v S' H' p g I' r => by
        obtain ⟨a, o, e, dg, b, eb, h⟩ := hg2 d k v S' H' p g I' r
        exact ⟨a, o, e, dg, eb ▸ h⟩, hx2⟩, hx1⟩
end
end PL

set_option maxHeartbeats 2000000
/-! list(d.items()): each pair told by its object. -/
namespace PL
open PySem PySem.Spec PyProof.Rows L2 LiI
def oat (h : Heap) (a : Addr) : Obj := (h.get? a).getD { cls := .type "tuple", data := .seq #[] }
def putZ (hh : Heap) : Hp → List Addr → List (Key × V) → Hp
  | H, a :: as, p :: kvs => putZ hh (upd H a (.frz (oat hh a) (.tup [kV p.1, p.2]))) as kvs
  | H, _, _ => H
theorem putZ_off {hh : Heap} {b : Addr} : ∀ (as : List Addr) (kvs : List (Key × V)) (H : Hp), b ∉ as → putZ hh H as kvs b = H b
  | [], _, _, _ => rfl
  | _ :: _, [], _, _ => rfl
  | a :: as, p :: kvs, H, h => by
    show putZ hh (upd H a (.frz (oat hh a) (.tup [kV p.1, p.2]))) as kvs b = H b
    rw [putZ_off as kvs _ (fun z => h (List.mem_cons_of_mem _ z)), upd_ne (fun z => h (by rw [z]; exact List.mem_cons_self))]
theorem putZ_at {hh : Heap} : ∀ (as : List Addr) (kvs : List (Key × V)) (H : Hp), as.length = kvs.length → as.Nodup → Paired (fun (t : Addr) (p : Key × V) => putZ hh H as kvs t = some (.frz (oat hh t) (.tup [kV p.1, p.2]))) as kvs
  | [], [], _, _, _ => .nil
  | [], _ :: _, _, h, _ => by cases h
  | _ :: _, [], _, h, _ => by cases h
  | a :: as, p :: kvs, H, h, hn => by
    have hn' := List.nodup_cons.mp hn
    have ih := putZ_at (hh := hh) as kvs (upd H a (.frz (oat hh a) (.tup [kV p.1, p.2]))) (Nat.succ.inj h) hn'.2
    refine .cons ?_ ih
    show putZ hh (upd H a (.frz (oat hh a) (.tup [kV p.1, p.2]))) as kvs a = some (.frz (oat hh a) (.tup [kV p.1, p.2]))
    rw [putZ_off as kvs _ hn'.1, upd_same]
theorem paired_on {α β : Type} {F G : α → β → Prop} : ∀ {xs : List α} {ys : List β}, Paired F xs ys → (∀ x ∈ xs, ∀ y, F x y → G x y) → Paired G xs ys
  | _, _, .nil, _ => .nil
  | _, _, .cons r t, f => .cons (f _ List.mem_cons_self _ r) (paired_on t fun x hx => f x (List.mem_cons_of_mem _ hx))
def rItemsZ : V → Hp → VK → Prop := fun x H Q => ∃ (d : Addr) (kvs : List (Key × V)), x = .ref d ∧ Rd H d (.dK kvs) ∧
  ∀ (H' : Hp) (p : Addr) (ts : List Addr), (∀ b o, H b = some o → H' b = some o) → H p = none → (∀ t ∈ ts, H t = none) → p ∉ ts → H' p = some (.lst (ts.map V.ref)) → Paired (fun (t : Addr) (q : Key × V) => ∃ o : Obj, o.dict = none ∧ H' t = some (.frz o (.tup [kV q.1, q.2]))) ts kvs → Q (.ref p) H'
def tListItemsZ (te : TE) : TE := fun σ H Q => te σ H fun x H1 => rItemsZ x H1 Q
section
variable {X : Cx} {e : Expr} {te : TE} {p apos cpos pos : Pos}
theorem items_laidZ {pins : List (Addr × Obj)} {σ : L2.St} {H : Hp} {s : Shared} {h' : Heap} {tk : Nat} {kvs : List (Key × V)} {vs : List (Key × Value)} {acc : Array Value} {c : Nat} {as : List Addr} (I : Inv X pins σ H s) (hz : kvs.length ≤ sizeLine) (kv : L2.KV kvs vs)
    (hk : ∀ b o, s.heap.get? b = some o → h'.get? b = some o) (hS : h'.get? s.heap.objs.size = some { cls := .type "list", dict := none, data := .seq acc c, slots := #[] }) (hl : as.length = vs.length) (hG : PySem.W.KdxG (mixKind X.prog X.w) vs s.heap.objs.size h' as) (hacc : acc.toList = as.map Value.ref) :
    ∃ H' : Hp, (∀ b o, H b = some o → H' b = some o) ∧ H s.heap.objs.size = none ∧ (∀ t ∈ as, H t = none) ∧ s.heap.objs.size ∉ as ∧ H' s.heap.objs.size = some (.lst (as.map V.ref)) ∧ Paired (fun (t : Addr) (q : Key × V) => H' t = some (.frz (oat h' t) (.tup [kV q.1, q.2]))) as kvs ∧ Inv X pins σ H' { s with heap := h', toks := tk } := by
  have lk : kvs.length = vs.length := Paired.length kv
  have hSn : s.heap.objs.size ∉ as := fun z => Nat.lt_irrefl _ (hG.above _ z)
  have nd : as.Nodup := List.Pairwise.imp (fun {a b} (h : a < b) => Nat.ne_of_lt h) hG.rise
  have new : ∀ t ∈ as, H t = none := fun t ht => I.hok.fresh (Nat.le_of_lt (hG.above t ht))
  have newS : H s.heap.objs.size = none := I.hok.fresh (Nat.le_refl _)
  have atP := putZ_at (hh := h') as kvs (upd H s.heap.objs.size (.lst (as.map V.ref))) (by omega) nd
  have off : ∀ b, b ∉ as → b ≠ s.heap.objs.size → putZ h' (upd H s.heap.objs.size (.lst (as.map V.ref))) as kvs b = H b := fun b h1 h2 => by rw [putZ_off as kvs _ h1, upd_ne h2]
  have low : ∀ b o, s.heap.get? b = some o → b ∉ as ∧ b ≠ s.heap.objs.size := fun b o e => ⟨fun z => absurd (Heap.lt_size e) (Nat.not_lt.mpr (Nat.le_of_lt (hG.above b z))), Nat.ne_of_lt (Heap.lt_size e)⟩
  have kp : ∀ b u, H b = some u → (putZ h' (upd H s.heap.objs.size (.lst (as.map V.ref))) as kvs) b = some u := fun b u e => by
    rw [off b (fun z => by rw [new b z] at e; cases e) (fun z => by rw [z, newS] at e; cases e)]
    exact e
  have eS : putZ h' (upd H s.heap.objs.size (.lst (as.map V.ref))) as kvs s.heap.objs.size = some (.lst (as.map V.ref)) := by rw [putZ_off as kvs _ hSn, upd_same]
  refine ⟨putZ h' (upd H s.heap.objs.size (.lst (as.map V.ref))) as kvs, kp, newS, new, hSn, eS, atP, ?_⟩
  refine I.call' (ch := []) rfl ⟨fun b o q _ _ _ => hk b o q, fun b o q _ _ _ => ⟨o.slots, hk b o q⟩, fun b o q n _ => ?_, fun b o q _ => ⟨o, hk b o q⟩, fun b xs q => kp b _ q, fun b o u q => kp b _ q, fun b ps q => ⟨#[], by rw [kp b _ q]; simp⟩⟩ (fun b u q => ?_) I.bare fun b z => by simp at z
  · obtain ⟨z1, z2⟩ := low b o q
    rw [off b z1 z2]
    exact n
  · by_cases hb : b ∈ as
    · obtain ⟨j, pk, e1, e2, e3⟩ := paired_ix atP hb
      rw [e3] at q
      cases q
      obtain ⟨key, k, x, f1, f2, f3⟩ := hG.pairs j b e1
      obtain ⟨qv, g1, g2, g3⟩ := LiI.paired_get kv e2
      rw [f1] at g1
      cases g1
      have rk : RelV (kV pk.1) key := by
        rw [g2]
        exact relV_key (show keyIs k key = true from f2)
      exact ⟨by unfold oat; rw [f3]; rfl, by show 2 ≤ sizeLine; decide, [key, x], .cons rk (.cons g3 .nil), ⟨_, f3, rfl, _, rfl⟩⟩
    · by_cases hb2 : b = s.heap.objs.size
      · rw [hb2] at q ⊢
        rw [eS] at q
        cases q
        refine ⟨by rw [List.length_map]; omega, acc.toList, c, by rw [hacc]; exact LiI.vals_refs as, ?_⟩
        rw [Array.toArray_toList]
        exact hS
      · rw [off b hb hb2] at q
        exact (I.hok b u q).stay (fun d v _ y => hk d v y) (fun d y => kp d _ y) fun d xs y => kp d _ y
theorem pe_listItemsZ (hc : X.calm = true) (he : PE X e te) (hg : Gl X "list") (hm : X.mg "list" = none) (hv : bootBuiltins "list" = some (.type "list")) (hbase : attributeBase e "items" X.env (eval e X.env) = eval e X.env := by rfl) (hline : (apos.endLine == cpos.line) = true := by rfl)
    (hs : starEach [.Call (.Attribute e "items" apos) [] [] cpos] X.env = (false, eval (.Call (.Attribute e "items" apos) [] [] cpos) X.env) :: starEach [] X.env := by rfl) :
    PE X (.Call (.Name "list" p) [.Call (.Attribute e "items" apos) [] [] cpos] [] pos) (tListItemsZ te) := by
  refine ⟨fun pins s σ H Q I hq => ?_⟩
  refine wpAny_Call_Name_kw (ld_blt I hg hm hv ?_)
  refine PyProof.Rows.callWith_type1 ?_ hs rfl
  rw [hs]
  show wpAny _ _ (spliced ((false, eval (.Call (.Attribute e "items" apos) [] [] cpos) X.env) :: backTo pos (starEach [] X.env))) _ _ s
  refine Calls.spliced_cons ?_
  refine wpAny_Call_method (T := "dict") (id := "dict.items") hbase rfl hline F.plainAttrs_dict F.slot_dict_items F.type_dict_items (thn (he.run pins s σ H _ I hq) fun u s1 ⟨x, H1, I1, rx, d, kvs, ex, hd, q⟩ => ?_)
  subst ex
  obtain rfl : u = Value.ref d := rx
  obtain ⟨hz, hs0, vs, kv, hdo⟩ := dk_rd I1.hok hd
  obtain ⟨ep, hat⟩ := hdo.dictAt
  have lk : kvs.length = vs.length := Paired.length kv
  have I2 : Inv X pins σ H1 { s1 with heap := s1.heap.push { cls := .type "dict_items", data := .fields #[.ref d] } } := I1.kept (t' := s1.toks) fun b ob q => Heap.get?_push_of_some _ q
  refine ⟨hdo.typeIs, hdo.mapOf.noDict, ?_⟩
  show wpAny _ _ (callWith cpos (.builtin "dict.items") [.ref d] [] []) _ X.xe s1
  refine method_meetsIn F.slot_dict_items F.entry_dict_items rfl (PySem.evalArgs_none ⟨rfl, hdo.typeIs, F.args_dict_items_1 _, _, meets_dict_items (mixKind X.prog X.w) d hs0, ⟨vs, hdo⟩, ?_⟩)
  refine Calls.spliced_nil ?_
  refine PySem.W.kdx_call (knd := mixKind X.prog X.w) (kvs := vs) (ep := ep) (I1.ok.hd hc) ⟨_, Heap.get?_push_size _ rfl, rfl, rfl⟩ (hat.push _) (by omega) fun h' tk acc c as hk hS hl hG hacc => ?_
  obtain ⟨H', k1, k2, k3, k4, k5, k6, J⟩ := items_laidZ (tk := tk) I2 hz kv hk hS hl hG hacc
  refine ⟨.ref _, H', J, rfl, q H' _ as k1 k2 k3 k4 k5 (paired_on k6 fun t ht y e => ?_)⟩
  obtain ⟨j, e1⟩ := List.getElem?_of_mem ht
  obtain ⟨key, k, x, f1, f2, f3⟩ := hG.pairs j t e1
  exact ⟨oat h' t, by unfold oat; rw [f3]; rfl, e⟩
end
end PL

/-! list(d.items()), by values. -/
namespace PL
open PySem PySem.Spec L2
section
variable {G : PenK} {K : PySem.W.Frag} {c : C} {σ : L2.St} {ρ : Env} {H H' : Hp} {n : Nt}
/-- several new things are laid at once -/
theorem SI.ext (I : SI G K c σ H ρ n) (k : ∀ b o, H b = some o → H' b = some o) (T : Addr → Prop) (hT : ∀ t, T t → H t = none ∧ H' t ≠ none) : SI G K (c.to fun a => c.S a ∨ T a) σ H' ρ n ∧ Grow c.S (fun a => c.S a ∨ T a) H H' := by
  have eq : ∀ a, H a ≠ none → H' a = H a := fun a h => by
    cases e : H a with
    | none => exact absurd e h
    | some o => exact k a o e
  have g : Grow c.S (fun a => c.S a ∨ T a) H H' := ⟨fun _ h => .inl h, fun a h => eq a (I.dom a h)⟩
  refine ⟨⟨I.len, fun i sv e => (I.slots i sv e).grow g fun a ea ho => eq a (I.own_there ⟨i, sv, e, ho, ea⟩), fun i sv a e ho es => ⟨fun z => z.elim (I.own i sv a e ho es).1 fun z => I.own_there ⟨i, sv, e, ho, es⟩ (hT a z).1, (I.own i sv a e ho es).2⟩, I.apart, fun a h => ?_, fun a o e hn => k a o (I.fr a o e hn), fun p e => ?_, fun a h => ⟨fun z => z.elim (I.no a h).1 fun z => (I.no a h).2 (I.freeOld (hT a z).1), (I.no a h).2⟩, fun q e => ⟨(I.tab q e).1, (I.tab q e).2.grow g (eq _ (I.tabN e).2.2)⟩, fun a nd e => ⟨(I.mu a nd e).1.grow g (eq _ (I.mu a nd e).1.there), fun z => Or.elim z (I.mu a nd e).2.1 fun z => (I.mu a nd e).1.there (hT a z).1, (I.mu a nd e).2.2⟩, I.mu0, I.mz⟩, g⟩
  · rcases h with h | h
    · rw [eq a (I.dom a h)]; exact I.dom a h
    · exact (hT a h).2
  · obtain ⟨h1, h2, h3, h4, h5⟩ := I.pen p e
    obtain ⟨k1, k2⟩ := G.there h1
    exact ⟨G.dep h1 (eq _ k1) (eq _ k2), fun z => z.elim h2 fun z => k1 (hT _ z).1, fun z => z.elim h3 fun z => k2 (hT _ z).1, h4, h5⟩
end
def itemsL (kvs : List (Key × D)) : List D := kvs.map fun kv => .tup [keyV kv.1, kv.2]
def itemsW (kvs : List (Key × D)) : W (List D) := grd (kvs.length ≤ sizeLine ∧ ∀ kv ∈ kvs, ∀ s, kv.1 = .inr s → s.length ≤ sizeLine) (ret (itemsL kvs))
theorem reps_items {K : PySem.W.Frag} {S : Addr → Prop} {H : Hp} : ∀ {ts : List Addr} {kvs : List (Key × D)} {kws : List (Key × V)}, RepK K S H kvs kws → (∀ kv ∈ kvs, ∀ s, kv.1 = .inr s → s.length ≤ sizeLine) → (∀ t ∈ ts, S t) → Paired (fun (t : Addr) (q : Key × V) => ∃ o : Obj, o.dict = none ∧ H t = some (.frz o (.tup [kV q.1, q.2]))) ts kws →
    Reps K S H (itemsL kvs) (ts.map V.ref)
  | [], [], _, h, _, _, p => by
    have e : _ = [] := h
    rw [e] at p
    exact Reps.nil
  | [], (k, x) :: kvs, _, h, _, _, p => by
    obtain ⟨v, ws, rfl, _⟩ := h
    cases p
  | t :: ts, [], _, h, _, _, p => by
    have e : _ = [] := h
    rw [e] at p
    cases p
  | t :: ts, (k, x) :: kvs, _, h, hz, hS, p => by
    obtain ⟨v, ws, rfl, r, q⟩ := h
    cases p with
    | cons h1 h2 =>
      obtain ⟨o, od, e⟩ := h1
      refine ⟨.ref t, ts.map V.ref, rfl, ⟨t, [kV k, v], rfl, .inl ⟨hS t List.mem_cons_self, o, e, od⟩, (by show 2 ≤ sizeLine; rw [sizeLine_eq]; decide), kV k, [v], rfl, ?_, v, [], rfl, r, rfl⟩, reps_items q (fun kv hk => hz kv (List.mem_cons_of_mem _ hk)) (fun t ht => hS t (List.mem_cons_of_mem _ ht)) h2⟩
      cases k with
      | inl i => exact rfl
      | inr s => exact ⟨rfl, hz (.inr s, x) List.mem_cons_self s rfl⟩
section
variable {G : PenK} {X : Cx} {Wx : WX}
theorem o_items {e : Expr} {p apos cpos pos : Pos} {g : Env → W D} (hc : X.calm = true) (hm : X.mg "list" = none) (h : E G X Wx e g) (hg : Gl X "list" := by rfl) (hv : bootBuiltins "list" = some (.type "list") := by first | exact PyProof.Rows.boot_list | rfl) (hbase : attributeBase e "items" X.env (eval e X.env) = eval e X.env := by rfl) (hline : (apos.endLine == cpos.line) = true := by rfl)
    (hs : starEach [.Call (.Attribute e "items" apos) [] [] cpos] X.env = (false, eval (.Call (.Attribute e "items" apos) [] [] cpos) X.env) :: starEach [] X.env := by rfl) :
    EO G X Wx (.Call (.Name "list" p) [.Call (.Attribute e "items" apos) [] [] cpos] [] pos) (fun ρ => bnd (g ρ) fun x => bnd (dicW x) itemsW) :=
  weakE (pe_listItemsZ hc h hg hm hv hbase hline hs) fun σ H Q ⟨c, ρ, n, P, PX, I, q, hgo, hx⟩ => tE.bnd I q hx fun d k u S' H1 p g I' hx' r => by
    cases d with
    | dic kvs =>
      obtain ⟨a, kws, rfl, ⟨_, rd⟩, rk⟩ := r
      obtain ⟨⟨z1, z2⟩, p⟩ := p
      refine ⟨a, kws, rfl, rd, fun H2 l ts k1 k2 k3 k4 k5 k6 => ?_⟩
      have th : ∀ t ∈ ts, H2 t ≠ none := fun t ht => by
        obtain ⟨j, y, _, _, o, _, e⟩ := LiI.paired_ix k6 ht
        rw [e]
        exact fun z => nomatch z
      obtain ⟨I2, g2⟩ := I'.ext k1 (fun a => a ∈ ts) fun t ht => ⟨k3 t ht, th t ht⟩
      refine hgo _ k l _ _ H2 p (g.trans g2) I2 k5 (by unfold itemsL; rw [List.length_map]; exact z1) (reps_items (RepK.grow g2 _ _ rk) z2 (fun t ht => .inr ht) k6) ⟨⟨fun z => z.elim (fun z => I'.dom l z k2) k4, I'.freeOld k2, I'.freeM k2⟩, fun i sv e ho es => I'.own_there ⟨i, sv, e, ho, es⟩ k2⟩
    | _ => exact False.elim p
end
end PL

namespace PL
open PySem PySem.Spec L2
/-- range of a written number, closed against unrolling -/
@[irreducible] def rngK (i : Int) : W (List Int) := rngI i
theorem rngK_eq (i : Int) : rngK i = rngI i := by unfold rngK; rfl
theorem w_rngK {G : PenK} {X : Cx} {Wx : WX} {tg e : Expr} {i : Int} (h : Wk G X Wx tg e (fun _ => bnd (bnd (ret (.int i)) rngD) fun ys => ret (ys.map .int))) : Wk G X Wx tg e (fun _ => bnd (rngK i) fun ys => ret (ys.map .int)) := by
  unfold rngK; exact h
end PL

/-! sorted of any list of pairs (text, int). -/
namespace PL
open PySem PySem.Spec PyProof.Rows L2
open SrtO hiding Str
section
variable {prog : Program} {w : World} {A : Around} {E : Value → Shared → Prop} {s : Shared}
theorem sorted_siG {l : Addr} {vs : List Value} {k : Value → Str × Int} {Q : Value → Shared → Prop} (hl : s.heap.IsList l vs.toArray) (hz : vs.length ≤ sizeLine) (hp : ∀ v ∈ vs, IsSI s.heap v (k v).1 (k v).2)
    (h : ∀ (out : List Value) (h' : Heap) (d : Addr), out.Perm vs → Srtd (fun v u => lexS (k v) (k u)) out → (∀ b o, s.heap.get? b = some o → h'.get? b = some o) → s.heap.objs.size ≤ d → (∃ n, h'.get? d = some (seqObj "list" out.toArray n)) → Q (.ref d) { s with heap := h' }) :
    wpAny (model prog w) A (call (.builtin "sorted") [.ref l]) Q E s := by
  refine sorted_ord (swo_lexS k) hl hz (fun h2 h₁ a ha kk => ?_) fun out hs2 hb => ?_
  · refine si_sortable (s := { s with heap := h₁ }) (by omega) (fun v hm => (hp v hm).keeps fun b o e _ => (kk b o e).2) fun o e => ?_
    have e' : some o = some (seqObj "list" vs.toArray 0) := e.symm.trans ha
    cases e'
    intro c
    exact absurd (Value.type.inj c) (by decide)
  · exact h out (sortedAll s.heap vs out.toArray) (s.heap.objs.size + 1) hb.perm hs2 (fun b o e => sortedAll_old e) (Nat.le_succ _) (sortedAll_at s.heap vs out.toArray)
end
theorem paired_at {α β : Type} {F : α → β → Prop} {g : α → β} : ∀ {ps : List α} {ks : List β}, Paired F ps ks → ps.map g = ks → ∀ p ∈ ps, F p (g p)
  | _, _, .nil, _, _, h => nomatch h
  | _, _, .cons (a := a) (b := b) h t, e, p, hm => by
    rw [List.map_cons] at e
    obtain ⟨e1, e2⟩ := List.cons.inj e
    rcases List.mem_cons.mp hm with rfl | hm
    · rw [e1]; exact h
    · exact paired_at t e2 p hm
section
variable {X : Cx}
theorem call_sortedSIG : CallR X (.builtin "sorted") (fun xs H Q => ∃ (a : Addr) (ps : List Addr) (ks : List (Str × Int)), xs = [.ref a] ∧ SqL X.K H a (ps.map V.ref) ∧ Paired (fun p kv => SqT X.K H p [.str kv.1, .int kv.2]) ps ks ∧
    ∀ (zs : List (Addr × (Str × Int))) p, zs.Perm (ps.zip ks) → ((zs.map (·.2)).Pairwise fun a b => lexS b a = false) → H p = none → Q (.ref p) (upd H p (.lst (zs.map fun z => V.ref z.1)))) := by
  intro pins s σ H xs us Q I r q
  obtain ⟨a, ps, ks, rfl, hq, hp, q⟩ := q
  obtain ⟨u, rfl, rx⟩ := vals1 r
  cases rx
  obtain ⟨its, rv, hl, hz⟩ := I.list hq
  have ei := refs_at rv
  subst ei
  rw [List.length_map] at hz
  obtain ⟨h1, h2⟩ := si_of I hp
  rw [List.map_map] at h2
  refine sorted_siG (k := kOf s.heap) hl.isList (by rw [List.length_map]; exact hz) h1 fun out h' d pm hs kp hd ⟨n, hn⟩ => ?_
  obtain ⟨qs, rfl⟩ : ∃ qs : List Addr, out = qs.map Value.ref := by
    have : ∀ l : List Value, (∀ v ∈ l, ∃ a, v = Value.ref a) → ∃ qs : List Addr, l = qs.map Value.ref := fun l => by
      induction l with
      | nil => exact fun _ => ⟨[], rfl⟩
      | cons v l ih =>
        intro h
        obtain ⟨b, rfl⟩ := h v List.mem_cons_self
        obtain ⟨qs, rfl⟩ := ih fun v hv => h v (List.mem_cons_of_mem _ hv)
        exact ⟨b :: qs, rfl⟩
    refine this out fun v hv => ?_
    obtain ⟨b, _, e⟩ := List.mem_map.mp (pm.mem_iff.mp hv)
    exact ⟨b, e.symm⟩
  have pq : qs.Perm ps := by
    have z := pm.map fun v : Value => match v with | .ref a => a | _ => a
    rw [List.map_map, List.map_map] at z
    have e1 : ∀ l : List Addr, l.map ((fun v : Value => match v with | .ref a => a | _ => a) ∘ Value.ref) = l := fun l => List.map_id l
    rw [e1, e1] at z
    exact z
  have ez : ps.zip ks = ps.map fun p => (p, kOf s.heap (.ref p)) := by
    rw [← h2]
    have : ∀ l : List Addr, l.zip (l.map (kOf s.heap ∘ Value.ref)) = l.map fun p => (p, kOf s.heap (.ref p)) := fun l => by
      induction l with
      | nil => rfl
      | cons b l ih => rw [List.map_cons, List.zip_cons_cons, ih, List.map_cons]; rfl
    exact this ps
  have q2 := q (qs.map fun p => (p, kOf s.heap (.ref p))) d (by rw [ez]; exact pq.map _) (by
    rw [List.map_map]
    exact List.pairwise_map.mpr (List.pairwise_map.mp hs)) (I.hok.fresh hd)
  rw [List.map_map] at q2
  have hz2 : qs.length ≤ sizeLine := by rw [pq.length_eq]; exact hz
  have rq : Vals (qs.map V.ref) (qs.map Value.ref) := by
    have : ∀ l : List Addr, Vals (l.map V.ref) (l.map Value.ref) := fun l => by
      induction l with
      | nil => exact .nil
      | cons b l ih => exact .cons rfl ih
    exact this qs
  exact ⟨.ref d, upd H d (.lst (qs.map V.ref)), I.laid (t' := s.toks) kp hd ⟨by rw [List.length_map]; exact hz2, _, n, rq, hn⟩, rfl, q2⟩
end
def siD (p : Str × Int) : D := .tup [.str p.1, .int p.2]
def lexLe (p q : Str × Int) : Bool := !lexS q p
def sortSI (l : List (Str × Int)) : List (Str × Int) := l.mergeSort lexLe
/-- sorted of pairs -/
def sortGW : D → W (List D)
  | .lst xs => bnd (optW (siL xs)) fun l => ret ((sortSI l).map siD)
  | _ => stuck
theorem siL_map : ∀ {xs : List D} {l : List (Str × Int)}, siL xs = some l → xs = l.map siD
  | [], l, e => by cases e; rfl
  | x :: xs, l, e => by
    match x, e with
    | .tup [.str y, .int i], e =>
      have e : (siL xs).map (fun l => (y, i) :: l) = some l := e
      cases es : siL xs with
      | none => rw [es] at e; cases e
      | some l2 =>
        rw [es] at e
        cases e
        rw [siL_map es]
        rfl
theorem siL_siD (l : List (Str × Int)) : siL (l.map siD) = some l := by
  induction l with
  | nil => rfl
  | cons p l ih =>
    show (siL (l.map siD)).map _ = _
    rw [ih]
    rfl
theorem lexLe_iff {p q : Str × Int} : lexLe p q = true ↔ ¬ (q.1.cps.toList < p.1.cps.toList ∨ (q.1 = p.1 ∧ q.2 < p.2)) := by
  unfold lexLe
  rw [Bool.not_eq_true', lexS_no]
theorem lexLe_trans (a b c : Str × Int) (h1 : lexLe a b = true) (h2 : lexLe b c = true) : lexLe a c = true := by
  have z := (swo_lexS (fun v => match v with | .bool true => a | .bool false => b | _ => c)).tr (.bool true) (.bool false) .none
  have y1 : lexS b a = false := by simpa [lexLe] using h1
  have y2 : lexS c b = false := by simpa [lexLe] using h2
  have y := z y1 y2
  show (!lexS c a) = true
  rw [show lexS c a = false from y]
  rfl
theorem lexLe_total (a b : Str × Int) : (lexLe a b || lexLe b a) = true := by
  rw [Bool.or_eq_true]
  refine Classical.byContradiction fun q => ?_
  rw [not_or, lexLe_iff, lexLe_iff, Classical.not_not, Classical.not_not] at q
  obtain ⟨h1, h2⟩ := q
  rcases h1 with h1 | ⟨h1, h3⟩ <;> rcases h2 with h2 | ⟨h2, h4⟩
  · exact List.lt_asymm h1 h2
  · rw [h2] at h1; exact List.lt_irrefl _ h1
  · rw [h1] at h2; exact List.lt_irrefl _ h2
  · omega
theorem lexLe_anti (a b : Str × Int) (h1 : lexLe a b = true) (h2 : lexLe b a = true) : a = b := by
  rw [lexLe_iff, not_or] at h1 h2
  have e : a.1 = b.1 := cps_inj (List.le_antisymm (List.not_lt.mp h1.1) (List.not_lt.mp h2.1))
  have x1 : ¬ b.2 < a.2 := fun z => h1.2 ⟨e.symm, z⟩
  have x2 : ¬ a.2 < b.2 := fun z => h2.2 ⟨e, z⟩
  exact Prod.ext e (by omega)
theorem sortSI_pw (l : List (Str × Int)) : (sortSI l).Pairwise fun a b => lexLe a b = true := List.pairwise_mergeSort lexLe_trans lexLe_total l
theorem sortSI_perm (l : List (Str × Int)) : (sortSI l).Perm l := List.mergeSort_perm l lexLe
theorem sortSI_uniq {l m : List (Str × Int)} (hp : m.Perm l) (hs : m.Pairwise fun a b => lexLe a b = true) : sortSI l = m :=
  ((sortSI_perm l).trans hp.symm).eq_of_pairwise (fun a b _ _ h1 h2 => lexLe_anti a b h1 h2) (sortSI_pw l) hs
theorem reps_siD {K : PySem.W.Frag} {S : Addr → Prop} {H : Hp} : ∀ {l : List (Str × Int)} {vs : List V}, Reps K S H (l.map siD) vs → ∃ ps : List Addr, vs = ps.map V.ref ∧ Paired (fun p kv => Rep K S H (siD kv) (.ref p)) ps l
  | [], _, h => by
    have e0 : _ = [] := h
    rw [e0]
    exact ⟨[], rfl, .nil⟩
  | x :: xs, _, h => by
    obtain ⟨v, ws, rfl, r, q⟩ := h
    obtain ⟨ps, rfl, z⟩ := reps_siD q
    have r' := r
    obtain ⟨p, vs2, rfl, _⟩ := r'
    exact ⟨p :: ps, rfl, .cons r z⟩
theorem siD_sq {K : PySem.W.Frag} {S : Addr → Prop} {H : Hp} {kv : Str × Int} {p : Addr} (r : Rep K S H (siD kv) (.ref p)) : SqT K H p [.str kv.1, .int kv.2] := by
  obtain ⟨a, vs2, e, r1, _, v1, w1, rfl, ⟨rfl, _⟩, v2, w2, rfl, rfl, q3⟩ := r
  cases e
  have q3 : w2 = [] := q3
  subst q3
  exact r1.sq
theorem zip_snd {α β : Type} {F : α → β → Prop} : ∀ {ps : List α} {ks : List β}, Paired F ps ks → (ps.zip ks).map (·.2) = ks
  | _, _, .nil => rfl
  | _, _, .cons h t => by
    rw [List.zip_cons_cons, List.map_cons, zip_snd t]
theorem zip_mem {α β : Type} {F : α → β → Prop} : ∀ {ps : List α} {ks : List β}, Paired F ps ks → ∀ z ∈ ps.zip ks, F z.1 z.2
  | _, _, .nil, _, h => nomatch h
  | _, _, .cons h t, z, hz => by
    rw [List.zip_cons_cons] at hz
    rcases List.mem_cons.mp hz with rfl | hz
    · exact h
    · exact zip_mem t z hz
theorem reps_zs {K : PySem.W.Frag} {S : Addr → Prop} {H : Hp} : ∀ {zs : List (Addr × (Str × Int))}, (∀ z ∈ zs, Rep K S H (siD z.2) (.ref z.1)) → Reps K S H ((zs.map (·.2)).map siD) (zs.map fun z => V.ref z.1)
  | [], _ => Reps.nil
  | z :: zs, h => Reps.cons (h z List.mem_cons_self) (reps_zs fun y hy => h y (List.mem_cons_of_mem _ hy))
section
variable {G : PenK} {X : Cx} {Wx : WX}
theorem o_sortG {p pos : Pos} {e : Expr} {g : Env → W D} (hm : X.mg "sorted" = none) (h : E G X Wx e g) (hg : Gl X "sorted" := by rfl) (he : starEach [e] X.env = (false, eval e X.env) :: starEach [] X.env := by rfl) :
    EO G X Wx (.Call (.Name "sorted" p) [e] [] pos) (fun ρ => bnd (g ρ) sortGW) :=
  o_b1 hm (by decide +kernel) call_sortedSIG (r := fun x H Q => ∃ (a : Addr) (ps : List Addr) (ks : List (Str × Int)), x = .ref a ∧ SqL X.K H a (ps.map V.ref) ∧ Paired (fun p kv => SqT X.K H p [.str kv.1, .int kv.2]) ps ks ∧
    ∀ (zs : List (Addr × (Str × Int))) p, zs.Perm (ps.zip ks) → ((zs.map (·.2)).Pairwise fun a b => lexS b a = false) → H p = none → Q (.ref p) (upd H p (.lst (zs.map fun z => V.ref z.1)))) (by
    intro c σ ρ H n P PX d v Q I r q hg hx
    cases d with
    | lst xs =>
      obtain ⟨a, vs, rfl, r1, z, q1⟩ := r
      obtain ⟨l, el, q2⟩ := optW_inv (show optW (siL xs) n (fun l k => (ret ((sortSI l).map siD)) k P PX) PX from q)
      obtain rfl := siL_map el
      obtain ⟨ps, rfl, pr⟩ := reps_siD q1
      refine ⟨a, ps, l, rfl, r1.sq, Paired.mapP pr fun p kv h => siD_sq h, fun zs b hz hs hb => ?_⟩
      have e1 : sortSI l = zs.map (·.2) := sortSI_uniq (by
        have := hz.map (·.2)
        rw [zip_snd pr] at this
        exact this) (hs.imp fun {a b} h => by unfold lexLe; rw [h]; rfl)
      have hz2 : ((sortSI l).map siD).length ≤ sizeLine := by
        rw [List.length_map, (sortSI_perm l).length_eq]
        rw [List.length_map] at z
        exact z
      refine hg.new q2 I hb hz2 ?_
      rw [e1]
      exact reps_zs fun y hy => zip_mem pr y (hz.mem_iff.mp hy)
    | _ => exact False.elim q) (fun x H Q ⟨a, ps, ks, e, h⟩ => ⟨a, ps, ks, by rw [e], h⟩) h hg (by decide) (by decide) he (by rfl)
end
end PL

/-! What is never reached (raise); expressions as statements; {**d, k: v}; d.get(k, x); items of a list of one's own; while. -/
namespace PL
open PySem PySem.Spec PyProof.Rows L2
section
variable {G : PenK} {X : Cx} {Wx : WX} {γ : Type} {En : Enz γ} {ρ : Env} {rest : List Stmt} {m : W γ}
theorem sg_stuck {ss : List Stmt} : SG G X Wx ss ρ En stuck := weakSs pss_no fun Dn σ H ⟨c, n, P, PX, I, q, _⟩ => q
theorem sg_expr {e : Expr} {pos : Pos} {g : Env → W D} {m0 : W D} (h : E G X Wx e g) (hg : g (bor ρ) = m0) (hr : SG G X Wx rest ρ En m) (hs : swapsWith e none pos.line X.env = pure false := by rfl) : SG G X Wx (.Expr e pos :: rest) ρ En (bnd m0 fun _ => m) :=
  weakSs (pss_cons (ps_expr h hs) hr) fun Dn σ H ⟨c, n, P, PX, I, q, hgl, hx⟩ => by
    obtain ⟨I2, g2⟩ := I.lend
    subst hg
    refine tE.bnd (f := fun _ => m) I2 q (hx.grow g2).x fun d k' v S' H' p g I' hx' r => ?_
    obtain ⟨I3, g3⟩ := I.back g I'
    exact ⟨_, k', P, PX, I3, p, hgl.grow g3, hx.grow g3⟩
def svD (s : SV) : W D := match s with
  | .d x => ret x
  | _ => stuck
def svAt (ρ : Env) (i : Nat) : SV := (ρ[i]?).getD .un
theorem nm_svD (ρ : Env) (i : Nat) : nm ρ i = svD (svAt ρ i) := by
  unfold nm svAt
  cases ρ[i]? with
  | none => rfl
  | some s => cases s <;> rfl
theorem e_nmV {x : Str} {px : Pos} (i : Nat) (hN : X.N[i]? = some x := by rfl) (hv : Vis X.env.scope x := by first | exact Or.inl rfl | exact Or.inr (Or.inl rfl) | exact Or.inr (Or.inr rfl)) (hd : (x == ("__debug__" : Str)) = false := by decide) (hcd : (x == ("__classdict__" : Str)) = false := by decide) :
    E G X Wx (.Name x px) (fun ρ => svD (svAt ρ i)) := E.eq (e_nm i hN hv hd hcd) (funext fun ρ => nm_svD ρ i)
/-! ### while -/
def whileT {J γ : Type} (t : J → W Bool) (bd : J → W (Step J γ)) (k : J → W γ) : Nat → J → W γ
  | 0, _ => stuck
  | f + 1, j => bnd (t j) fun b => if b = true then bnd (bd j) (forK k fun j' => whileT t bd k f j') else k j
def whileE {J γ : Type} (t : J → W Bool) (bd : J → W (Step J γ)) (k : J → W γ) (j : J) : W γ := fun n P PX => ∃ f, whileT t bd k f j n P PX
theorem sg_while {J : Type} {c : Expr} {body : List Stmt} {pos : Pos} {gt : Env → W Bool} {mt : J → W Bool} {emb : J → Env} {j0 : J} {bb : J → W (Step J γ)} {kk : J → W γ}
    (hp : PassesOwn (model X.prog X.w) X.A X.env X.xe) (ht : T G X Wx c gt) (hl : Le ρ (emb j0)) (hg : ∀ j, gt (bor (emb j)) = mt j) (hb : ∀ j, SG G X Wx body (emb j) (En.loop emb) (bb j)) (hr : ∀ j, SG G X Wx rest (emb j) En (kk j)) :
    SG G X Wx (.While c body [] pos :: rest) ρ En (whileE mt bb kk j0) :=
  weakSs (pss_cons (ps_while hp ht (pss_un hb)) (pss_un hr)) fun Dn σ H ⟨cc, n, P, PX, I, ⟨f0, q⟩, hgl, hx⟩ => by
    refine ⟨fun m σ2 H2 => ∃ S2 j2 k2, Grow cc.S S2 H H2 ∧ SI G X.K (cc.to S2) σ2 H2 (emb j2) k2 ∧ whileT mt bb kk m j2 k2 P PX, ⟨f0, cc.S, j0, n, .refl, I.le hl, q⟩, ?_⟩
    rintro m σ2 H2 ⟨S2, j2, k2, g2, I2, p2⟩
    cases m with
    | zero => exact False.elim p2
    | succ m =>
      obtain ⟨I3, g3⟩ := I2.lend
      have hx2 := hx.grow g2
      have hg2 := hgl.grow g2
      have p3 : bnd (gt (bor (emb j2))) (fun b => if b = true then bnd (bb j2) (forK kk fun j' => whileT mt bb kk m j') else kk j2) k2 P PX := by rw [hg]; exact p2
      refine tT.bnd (f := fun b => if b = true then bnd (bb j2) (forK kk fun j' => whileT mt bb kk m j') else kk j2) I3 p3 (hx2.grow g3).x fun b k4 S4 H4 p4 g4 I4 hx4 => ?_
      obtain ⟨I5, g5⟩ := I2.back g4 I4
      have hg5 := hg2.grow g5
      have hx5 := hx2.grow g5
      cases b with
      | false =>
        rw [if_neg (by decide)] at p4 ⊢
        exact ⟨j2, _, k4, P, PX, I5, p4, hg5, hx5⟩
      | true =>
        rw [if_pos rfl] at p4 ⊢
        refine ⟨fun σ' H' => ∃ S3 j3 k3, Grow cc.S S3 H H' ∧ SI G X.K (cc.to S3) σ' H' (emb j3) k3 ∧ whileT mt bb kk m j3 k3 P PX, fun σ' H' q => ⟨m, Nat.lt_succ_self m, q⟩, ?_⟩
        have gg : Grow cc.S (fun a => S4 a ∧ ¬ ownS (emb j2) σ2 a) H H4 := g2.trans g5
        refine ⟨j2, _, k4, fun o k => forK kk (fun j' => whileT mt bb kk m j') o k P PX, PX, I5, p4, ⟨?_, ?_, ?_, ?_⟩, hx5⟩
        · rintro ρ5 _ k5 σ5 S5 H5 ⟨j', rfl, le⟩ p6 g6 I6
          exact ⟨S5, j', k5, gg.trans g6, I6.le le, p6⟩
        · rintro d5 _ k5 v5 σ5 ρ5 S5 H5 ⟨mg, hrt, rfl⟩ p6 g6 I6 r6
          exact hg5.2.1 d5 mg k5 v5 σ5 ρ5 S5 H5 hrt p6 g6 I6 r6
        · rintro ρ5 _ k5 σ5 S5 H5 ⟨j', rfl, le⟩ p6 g6 I6
          exact ⟨j', _, k5, P, PX, I6.le le, p6, hg5.grow g6, hx5.grow g6⟩
        · rintro ρ5 _ k5 σ5 S5 H5 ⟨j', rfl, le⟩ p6 g6 I6
          exact ⟨S5, j', k5, gg.trans g6, I6.le le, p6⟩
end
/-! ### {**d, k: v} -/
section
variable {X : Cx}
def tOver1 (t1 tk tv : TE) : TE := fun σ H Q => ∀ p, H p = none → t1 σ (upd H p (.dK [])) fun x1 H1 => ∃ a1 k1, x1 = V.ref a1 ∧ Rd H1 a1 (.dK k1) ∧ a1 ≠ p ∧ H1 p = some (.dK []) ∧
  ∀ q, upd H1 p (.dK (mergeK [] k1)) q = none → tPairs [(tk, tv)] σ (upd (upd H1 p (.dK (mergeK [] k1))) q (.dK [])) fun ps H2 => H2 q = some (.dK []) ∧ ∃ kk v, ps = [(kV kk, v)] ∧ H2 p = some (.dK (mergeK [] k1)) ∧ (mergeK [] k1).length + 1 ≤ sizeLine ∧ q ≠ p ∧
    Q (.ref p) (upd (upd H2 q (.dK [(kk, v)])) p (.dK (mergeK (mergeK [] k1) [(kk, v)])))
theorem pe_over1 {e1 k v : Expr} {pos : Pos} {t1 tk tv : TE} (h1 : PE X e1 t1) (hk : PE X k tk) (hv : PE X v tv) : PE X (.Dict [none, some k] [e1, v] pos) (tOver1 t1 tk tv) := by
  refine ⟨fun pins s σ H Q I q => ?_⟩
  have hn := I.hok.fresh (Nat.le_refl s.heap.objs.size)
  have I1 := I.laid (a := s.heap.objs.size) (o := .dK []) (h' := s.heap.push { cls := .type "dict", data := .dict #[] }) (t' := s.toks) (fun _ _ q => Heap.get?_push_of_some _ q) (Nat.le_refl _) (dk_empty s.heap I.big)
  have q1 := q _ hn
  rw [arm_eval_Dict]
  refine wpAny_bind (wpAny_standAt ?_)
  show wpAny _ _ (dictDisplay [(none, do let x ← eval e1 X.env; standAt pos; pure x), (some (eval k X.env), do let x ← eval v X.env; standAt pos; pure x)]) _ _ _
  unfold dictDisplay
  simp only [List.forIn_cons, List.forIn_nil, List.isEmpty_nil, if_true]
  refine wpAny_bind ?_
  refine wpAny_bind ?_
  refine wpAny_bind (wpAny_pure ?_)
  refine wpAny_bind (wpAny_alloc ?_)
  refine wpAny_bind (wpAny_holding (wpAny_bind (thn (h1.run pins _ σ _ _ I1 q1) fun u1 s1 ⟨x1, H1, J1, rx1, a1, k1, ex1, rd1, ne1, e1, q2⟩ => wpAny_bind (wpAny_standAt (wpAny_pure ?_)))))
  subst ex1
  obtain rfl : u1 = Value.ref a1 := rx1
  have hz1 : ([] : List (Key × V)).length + k1.length ≤ sizeLine := by
    have := (dk_rd J1.hok rd1).1
    rw [List.length_nil]; omega
  refine wpAny_bind (wpAny_onRaise (wpAny_tryCatch (wpAny_onRaise (wpAny_holding (merge_at J1 e1 rd1 ne1 hz1 fun s2 J2 => ?_)))))
  refine wpAny_pure ?_
  dsimp only
  refine wpAny_bind ?_
  simp only [List.nil_append, List.length_cons, List.length_nil]
  refine wpAny_pure ?_
  dsimp only
  refine wpAny_pure ?_
  simp only [List.isEmpty_cons, Bool.false_eq_true, if_false]
  have hn2 := J2.hok.fresh (Nat.le_refl s2.heap.objs.size)
  have J3 := J2.laid (a := s2.heap.objs.size) (o := .dK []) (h' := s2.heap.push { cls := .type "dict", data := .dict #[] }) (t' := s2.toks) (fun _ _ q => Heap.get?_push_of_some _ q) (Nat.le_refl _) (dk_empty s2.heap J2.big)
  have q3 := q2 _ hn2
  refine wpAny_bind (wpAny_bind (wpAny_holding (wpAny_subDict (knd := mixKind X.prog X.w) (by show 1 ≤ 15; decide) (thn ((pps_cons (pos := pos) hk hv pps_nil).run pins _ σ _ _ J3 q3) fun ws s4 ⟨ps, H2, J4, rel, eq, kk, vv, ep, ep2, hz2, ne2, q4⟩ => ?_))))
  subst ep
  obtain ⟨rs, cr, rk⟩ := carries_of (P := X.prog) (w := X.w) (kvs := [(kk, vv)]) rel
  obtain ⟨z, hd, vs0, r0, dd⟩ := dk_of J4.hok eq
  cases r0
  refine ⟨rs, cr, dd, fun h' dd' hs => ?_⟩
  have he : ∃ q, h'.get? s2.heap.objs.size = some q := let ⟨q, _, _, hq, _⟩ := dd'; ⟨q, hq⟩
  have J5 := d_write J4 (t' := s4.toks + ws.length) (by rw [eq]; exact True.intro) hs he (dk_new (kvs := [(kk, vv)]) (by show 1 ≤ sizeLine; rw [sizeLine_eq]; decide) hd (show L2.KV [(kk, vv)] (merged [] rs) from L2.KV.merge rk .nil) dd')
  refine wpAny_bind (wpAny_onRaise (wpAny_holding (merge_at (k1 := [(kk, vv)]) J5 (by rw [upd_ne (Ne.symm ne2)]; exact ep2) (.inl upd_same) ne2 (by show _ + 1 ≤ _; exact hz2) fun s6 J6 => ?_)))
  refine wpAny_pure ?_
  dsimp only
  exact wpAny_pure ⟨.ref s.heap.objs.size, _, J6, rfl, q4⟩
end
section
variable {G : PenK} {X : Cx} {Wx : WX}
theorem OKx.blk {c : C} {σ : L2.St} {ρ : Env} {H : Hp} {n : Nt} {D : Addr} {o : HO} {PX : Exc → Nt → Prop} (I : SI G X.K c σ H ρ n) (h0 : c.H0 D = none) (hx : OKx G X Wx c σ ρ H PX) : OKx G X Wx (c.blk D o) σ ρ H PX :=
  fun x k S' H' cls dd px g J r => hx x k S' H' cls dd px g (SI.restore (vs := []) I h0 J g (fun _ _ => rfl) (fun _ _ => rfl) rfl).1 r
def over1W (kvs : List (Key × D)) (k x : D) : W (List (Key × D)) := bnd (optW (keyD k)) fun kk => grd (kvs.length + 1 ≤ sizeLine) (ret (putD (mergeD [] kvs) kk x))
theorem k_over1 {e1 k v : Expr} {pos : Pos} {g1 gk gv : Env → W D} (h1 : E G X Wx e1 g1) (hk : E G X Wx k gk) (hv : E G X Wx v gv) :
    EK G X Wx (.Dict [none, some k] [e1, v] pos) (fun ρ => bnd (g1 ρ) fun d => bnd (dicW d) fun kvs => bnd (gk ρ) fun y => bnd (gv ρ) fun x => over1W kvs y x) :=
  weakE (pe_over1 h1 hk hv) fun σ H Q ⟨c, ρ, n, P, PX, I, q, hg, hx⟩ => fun p hp => by
    obtain ⟨I0, g0, f0⟩ := SI.bare (o := .dK []) I hp
    have h0 : c.H0 p = none := I.freeOld hp
    have hS : ¬ c.S p := I.freeS hp
    have hO : ¬ ownS ρ σ p := fun z => I.own_there z hp
    have B1 := SI.blk I0 (D := p) (o := .dK []) upd_same h0 hS (I.freeM hp) hO
    refine tE.bnd (f := fun d => bnd (dicW d) fun kvs => bnd (gk ρ) fun y => bnd (gv ρ) fun x => over1W kvs y x) B1 q (OKx.blk I0 h0 (hx.grow g0)) fun d k1 u S1 H1 p1 gr1 J1 _ r1 => ?_
    obtain ⟨I1, e1, nS1, nM1⟩ := SI.restore (vs := []) I0 h0 J1 gr1 (fun _ _ => rfl) (fun _ _ => rfl) rfl
    cases d with
    | dic kvs =>
      obtain ⟨a, kws, rfl, ⟨hSa, rd⟩, rk⟩ := r1
      have ne1 : a ≠ p := fun z => nS1 (z ▸ hSa)
      refine ⟨a, kws, rfl, rd, ne1, e1, fun b hb => ?_⟩
      have hO1 : ¬ ownS ρ σ p := hO
      obtain ⟨I2, gr2⟩ := SI.put (o := .dK (mergeK [] kws)) I1 h0 nS1 nM1 hO1
      obtain ⟨I3, gr3, f3⟩ := SI.bare (o := .dK []) I2 hb
      have nbp : b ≠ p := fun z => by rw [z, upd_same] at hb; cases hb
      have hb0 : c.H0 b = none := I2.freeOld hb
      have hSb : ¬ S1 b := I2.freeS hb
      have hOb : ¬ ownS ρ σ b := fun z => I2.own_there z hb
      have gAll := (g0.trans gr1).trans (gr2.trans gr3)
      have B2 := SI.blk I3 (D := p) (o := .dK (mergeK [] kws)) (by rw [upd_ne (Ne.symm nbp), upd_same]) h0 nS1 nM1 hO1
      have b0 : ((c.to S1).blk p (.dK (mergeK [] kws))).H0 b = none := by
        show (if b = p then some _ else c.H0 b) = none
        rw [if_neg nbp]; exact hb0
      have B3 := SI.blk B2 (D := b) (o := .dK []) upd_same b0 hSb (I2.freeM hb) hOb
      have hx3 : OKx G X Wx ((c.to S1).blk p (.dK (mergeK [] kws))) σ ρ _ PX := OKx.blk I3 h0 (hx.grow gAll)
      refine tE.bnd (f := fun y => bnd (gv ρ) fun x => over1W kvs y x) B3 p1 (OKx.blk B2 b0 hx3) fun y k2 u2 S2 H2 p2 gr4 J4 hx4 r2 => ?_
      refine tE.bnd (f := fun x => over1W kvs y x) J4 p2 hx4 fun x k3 u3 S3 H3 p3 gr5 J5 _ r3 => ?_
      obtain ⟨kk, ek, z1, p3⟩ := optW_inv (show optW (keyD y) k3 (fun kk k => grd (kvs.length + 1 ≤ sizeLine) (ret (putD (mergeD [] kvs) kk x)) k P PX) PX from p3)
      obtain ⟨I6, eb, nSb, nMb⟩ := SI.restore (vs := []) B2 b0 J5 (gr4.trans gr5) (fun _ _ => rfl) (fun _ _ => rfl) rfl
      obtain ⟨I7, ep, nSp, nMp⟩ := SI.restore (vs := []) I3 h0 I6 (gr4.trans gr5) (fun _ _ => rfl) (fun _ _ => rfl) rfl
      obtain rfl := keyD_rep ek r2
      have l1 := rk.len
      have l3 := length_mergeK kws []
      rw [List.length_nil] at l3
      refine ⟨eb, kk, u3, rfl, ep, by omega, nbp, ?_⟩
      obtain ⟨I8, gr8⟩ := SI.put (o := .dK [(kk, u3)]) I7 hb0 nSb nMb hOb
      obtain ⟨I9, gr9⟩ := SI.put (o := .dK (mergeK (mergeK [] kws) [(kk, u3)])) I8 h0 nSp nMp hO1
      have gF := ((gr4.trans gr5).trans gr8).trans gr9
      have rk' := RepK.grow ((gr2.trans gr3).trans gF) _ _ rk
      refine hg _ k3 p _ S3 _ p3 (gAll.trans gF) I9 upd_same (RepK.put kk (RepK.merge (kvs := []) (kws := []) rfl rk') (Rep.grow (gr8.trans gr9) _ _ r3)) ⟨⟨nSp, h0, nMp⟩, fun i sv e ho es => hO ⟨i, sv, e, ho, es⟩⟩
    | _ => exact False.elim p1
/-! ### d.get(k, x) -/
def get2W (kvs : List (Key × D)) (k z : D) : W D := bnd (optW (keyD k)) fun kk => ret ((valD kvs kk).getD z)
theorem e_get2 {o e f : Expr} {apos cpos : Pos} {go ge gf : Env → W D} (hu : X.A.units + 1 < cLine) (ho : E G X Wx o go) (he : E G X Wx e ge) (hf : E G X Wx f gf)
    (m : M2 X o "get" apos e f cpos := by exact ⟨by rfl, by rfl, by rfl, by rfl⟩) :
    E G X Wx (.Call (.Attribute o "get" apos) [e, f] [] cpos) (fun ρ => bnd (go ρ) fun x => bnd (dicW x) fun kvs => bnd (ge ρ) fun y => bnd (gf ρ) fun z => get2W kvs y z) :=
  weakE (pe_dget2 hu ho he hf m) fun σ H Q ⟨c, ρ, n, P, PX, I, q, hg, hx⟩ => tE.bnd I q hx fun d k u S' H' p g I' hx' r => by
    cases d with
    | dic kvs =>
      obtain ⟨a, kws, rfl, ⟨hS, rd⟩, rk⟩ := r
      refine ⟨a, rfl, .inl ⟨kws, rd⟩, tE.bnd (f := fun y => bnd (gf ρ) fun z => get2W kvs y z) I' p hx' fun d2 k2 u2 S2 H2 p2 g2 I2 hx2 r2 => tE.bnd (f := fun z => get2W kvs d2 z) I2 p2 hx2 fun d3 k3 u3 S3 H3 p3 g3 I3 hx3 r3 => ?_⟩
      obtain ⟨kk, ek, p3⟩ := optW_inv (show optW (keyD d2) k3 (fun kk k => P ((valD kvs kk).getD d3) k) PX from p3)
      obtain rfl := keyD_rep ek r2
      have rd2 := Rd.to ((g2.trans g3).eq a hS) rd
      have hg2 := hg.grow (g.trans (g2.trans g3))
      rcases RepK.find kk (RepK.grow (g2.trans g3) _ _ rk) with ⟨z1, z2⟩ | ⟨x, v, z1, z2, r4⟩
      · rw [z1] at p3
        exact ⟨none, .inl ⟨kws, kk, rd2, rfl, z2.symm⟩, hg2.at (d := d3) p3 I3 r3⟩
      · rw [z1] at p3
        exact ⟨some v, .inl ⟨kws, kk, rd2, rfl, z2.symm⟩, hg2.at (d := x) p3 I3 r4⟩
    | _ => exact False.elim p
/-! ### items of a list of one's own -/
def nmO (ρ : Env) (i : Nat) : W (List D) := match ρ[i]? with
  | some (.own xs) => ret xs
  | _ => stuck
theorem nmO_inv {α : Type} {ρ : Env} {i : Nat} {n : Nt} {f : List D → W α} {P : α → Nt → Prop} {PX : Exc → Nt → Prop} (h : bnd (nmO ρ i) f n P PX) : ∃ xs, ρ[i]? = some (.own xs) ∧ f xs n P PX := by
  have h : nmO ρ i n (fun a k => f a k P PX) PX := h
  unfold nmO at h
  cases e : ρ[i]? with
  | none => rw [e] at h; exact False.elim h
  | some s =>
    rw [e] at h
    cases s with
    | own xs => exact ⟨xs, rfl, h⟩
    | _ => exact False.elim h
theorem e_ixOwn {x : Str} {px pos : Pos} {b : Expr} {gb : Env → W D} (i : Nat) (hb : E G X Wx b gb) (hs : PlainIx b := by intro _ _; rfl) (hN : X.N[i]? = some x := by rfl) (hv : Vis X.env.scope x := by first | exact Or.inl rfl | exact Or.inr (Or.inl rfl) | exact Or.inr (Or.inr rfl)) (hd : (x == ("__debug__" : Str)) = false := by decide) (hcd : (x == ("__classdict__" : Str)) = false := by decide) :
    E G X Wx (.Subscript (.Name x px) b pos) (fun ρ => bnd (nmO ρ i) fun xs => bnd (gb ρ) fun y => ixD (.lst xs) y) :=
  weakE (pe_ix ix_seq (pe_var hN hv hd hcd) hb hs) fun σ H Q ⟨c, ρ, n, P, PX, I, q, hg, hx⟩ => by
    obtain ⟨xs, e1, q⟩ := nmO_inv q
    obtain ⟨a, vs, e2, e3, z, r⟩ := I.slots i _ e1
    refine ⟨.ref a, slot_some e2, tE.bnd I q hx fun d k v S' H' p g I' hx' r' => ?_⟩
    obtain ⟨a', vs', e4, e5, z3, r2⟩ := I'.slots i _ e1
    rw [e2] at e4
    cases e4
    cases d with
    | int j =>
      cases r'
      have p : (match atI xs j with | some x => ret x | none => stuck : W D) k P PX := p
      cases hxx : atI xs j with
      | none => rw [hxx] at p; exact p.elim
      | some y =>
        rw [hxx] at p
        obtain ⟨m, h1, h2⟩ := atI_len r2.len hxx
        obtain ⟨u, h3, h4⟩ := Reps.at r2 h1
        exact .inl ⟨a, vs', _, u, rfl, rfl, SqL.of e5, h2 u h3, (hg.grow g).at p I' h4⟩
    | _ => exact False.elim p
theorem e_lenOwn {x : Str} {p px pos : Pos} (i : Nat) (hm : X.mg "len" = none) (hN : X.N[i]? = some x := by rfl) (hv : Vis X.env.scope x := by first | exact Or.inl rfl | exact Or.inr (Or.inl rfl) | exact Or.inr (Or.inr rfl)) (hd : (x == ("__debug__" : Str)) = false := by decide) (hcd : (x == ("__classdict__" : Str)) = false := by decide)
    (hg : Gl X "len" := by rfl) (he : starEach [.Name x px] X.env = (false, eval (.Name x px) X.env) :: starEach [] X.env := by rfl) (hpl : (backTo pos (starEach [] X.env)).any (·.1) = false := by rfl) :
    E G X Wx (.Call (.Name "len" p) [.Name x px] [] pos) (fun ρ => bnd (nmO ρ i) fun xs => ret (.int xs.length)) :=
  weakE (pe_callB call_len hg hm PySem.boot_len (pa_cons (pe_var hN hv hd hcd) pa_nil he) (by decide) (by decide) he hpl) fun σ H Q ⟨c, ρ, n, P, PX, I, q, hg, hx⟩ => by
    obtain ⟨xs, e1, q⟩ := nmO_inv q
    obtain ⟨a, vs, e2, e3, z, r⟩ := I.slots i _ e1
    exact ⟨.ref a, slot_some e2, .ref a, xs.length, rfl, .inl ⟨vs, SqL.of e3, r.len.symm⟩, hg.at (d := .int xs.length) q I rfl⟩
theorem o_slOwn {x : Str} {px p2 pos : Pos} {lo hi : Option Expr} {gl gh : Env → W (Option Int)} (i : Nat) (hl : PP G X Wx lo gl) (hh : PP G X Wx hi gh) (hN : X.N[i]? = some x := by rfl) (hv : Vis X.env.scope x := by first | exact Or.inl rfl | exact Or.inr (Or.inl rfl) | exact Or.inr (Or.inr rfl)) (hd : (x == ("__debug__" : Str)) = false := by decide) (hcd : (x == ("__classdict__" : Str)) = false := by decide) :
    EO G X Wx (.Subscript (.Name x px) (.Slice lo hi none p2) pos) (fun ρ => bnd (nmO ρ i) fun xs => bnd (gl ρ) fun i => bnd (gh ρ) fun j => ret (cutD xs i j)) := by
  obtain ⟨tl, hl1, hl2⟩ := hl
  obtain ⟨th, hh1, hh2⟩ := hh
  refine weakE (pe_slice sl_list (pe_var hN hv hd hcd) hl1 hh1) fun σ H Q ⟨c, ρ, n, P, PX, I, q, hg, hx⟩ => ?_
  obtain ⟨xs, e1, q⟩ := nmO_inv q
  obtain ⟨a, vs, e2, e3, z, r⟩ := I.slots i _ e1
  refine ⟨.ref a, slot_some e2, hl2 _ ρ n (fun i k => bnd (gh ρ) (fun j => ret (cutD xs i j)) k P PX) PX σ H _ I q hx fun i' k2 S2 H2 p2 g2 I2 => hh2 _ ρ k2 (fun j k => P (cutD xs i' j) k) PX σ H2 _ I2 p2 (hx.grow g2) fun j k3 S3 H3 p3 g3 I3 => ?_⟩
  obtain ⟨a', vs', e4, e5, z3, r2⟩ := I3.slots i _ e1
  rw [e2] at e4
  cases e4
  exact ⟨a, vs', rfl, SqL.of e5, fun b hb => (hg.grow (g2.trans g3)).new p3 I3 hb (Nat.le_trans (cutD_len _ _ _) z3) r2.cut⟩
/-! ### a tuple of texts among the globals -/
theorem e_gt {x : Str} {px : Pos} {a : Addr} {ss : List Str} (hm : X.mg x = some (.ref a)) (hw : WrT X.K a (ss.map V.str)) (hz : ss.length ≤ sizeLine ∧ ∀ s ∈ ss, s.length ≤ sizeLine) (hg : Gl X x := by rfl) (hd : (x == ("__debug__" : Str)) = false := by decide) :
    E G X Wx (.Name x px) (fun _ => ret (.tup (ss.map .str))) :=
  e_cst (v := .ref a) (pe_glob hg hm rfl hd) fun S H => ⟨a, ss.map V.str, rfl, .inr hw, by rw [List.length_map]; exact hz.1, reps_strs hz.2⟩
end
end PL

/-! errors: a class over any built-in class, whose own __init__ keeps its one argument in a field. -/
namespace PL
open PySem PySem.Spec PyProof.Rows L2 PySem.Calls Builtin.ObjectAttr
/-- what the written part says of such a class -/
structure OexB (K : PySem.W.Frag) (C : Addr) (bmB : List Value) (newId : String) : Prop where
  ini : PySem.W.excInitIn K C bmB newId = true
  ovr : PySem.W.excOver K C bmB = true
  hd : PySem.W.hasDictIn K C = true
  sa : PySem.W.findIn K (.ref C) "__setattr__" = some (some (.builtin "object.__setattr__"))
  exC : PySem.W.subIn K (.ref C) (.type "BaseException") = some true
  tyC : PySem.W.typeIn K (.ref C) = some (.type "type")
  kC : PySem.W.keepIn K (.ref C) = true
section
variable {prog : Program} {w : World} {A : Around} {R : Result → Shared → Prop} {hp : Heap} {g : Array GenState} {d : Drawn} {t : Nat} {os : OsState} {B : String} {bmB : List Value}
theorem exc_osaB {K : W.Frag} {name : Str} {tk : Tok} {v : Value} {x C : Addr} {fv : Array Value} (SF : StoreFacts B bmB "object.__setattr__" "object")
    (X : K.In hp) (hx : hp.get? x = some { cls := .ref C, data := .fields fv }) (ho : W.excOver K C bmB = true) (hh : W.hasDictIn K C = true) (ha : W.findIn K (.ref C) name = some none)
    (hq : ∀ h' tk' dx, (∀ b o, b ≠ x → hp.get? b = some o → h'.get? b = some o) → hp.objs.size ≤ dx → dx ≠ x → h'.get? x = some { cls := .ref C, dict := some dx, data := .fields fv } →
      h'.Ns1 dx (fun y => if y = name then some v else none) → R (.ok (.ret .none)) ⟨h', g, d, tk', os⟩) :
    codeAny (model prog w) A (.call (.builtin "object.__setattr__") ⟨[.ref x, .str name tk, v], []⟩) R ⟨hp, g, d, t, os⟩ := by
  refine W.osa_openX (r := none) (od := none) SF X ⟨hx, rfl, rfl, trivial⟩ ho (by unfold W.takerIn; rw [ha]; rfl) fun b => ?_
  obtain ⟨cd, hc, hd⟩ := W.any_some hh
  have hxs : x ≠ hp.objs.size := Nat.ne_of_lt (Heap.lt_size hx)
  have hcls : W.Looks (model prog w) hp (classData C) cd := W.looks_clsIn X hc
  obtain ⟨nm, bs, mro, ns, qn, hd', sn, sb, ab, col, del⟩ := cd
  dsimp only at hd
  subst hd
  show wpAny _ _ (storeInOwnDict (.ref x) (.ref C) (.str name tk) name v b) _ _ _
  unfold storeInOwnDict ownDictForStores
  repeat (first | with_reducible refine HandSPX.store_in_new ?_ ?_ | with_reducible refine wpAny_loadPart_at hx ?_ | with_reducible refine hcls.at ?_ | wp_step)
  · exact ⟨_, #[], _, (Heap.get?_update_ne _ _ _ _ hxs.symm).trans (Heap.get?_push_at rfl rfl), rfl, fun e he => absurd he (by simp), fun _ => rfl⟩
  · intro h' tk' hn' hs
    have hx₁ : (hp.push { cls := .type "dict", data := .dict #[] }).get? x = some { cls := .ref C, data := .fields fv } := Heap.get?_push_of_some _ hx
    refine hq h' tk' hp.objs.size (fun b o hb ho => ?_) (Nat.le_refl _) hxs.symm ?_ hn'
    · exact (hs.2 b (Nat.ne_of_lt (Heap.lt_size ho))).trans ((Heap.get?_update_ne _ _ _ _ hb).trans (Heap.get?_push_of_some _ ho))
    · exact (hs.2 x hxs).trans (Heap.get?_update_self _ hx₁ rfl)
end
section
variable {X : Cx} {pins : List (Addr × Obj)} {σ : L2.St} {H : Hp} {s : Shared} {a C : Addr} {f : Str} {y : V} {u : Value} {Q : Unit → Shared → Prop} {E : Value → Shared → Prop} {A : Around} {B newId : String} {bmB : List Value}
/-- self.f = y, the first one -/
theorem ost_newB (SF : StoreFacts B bmB "object.__setattr__" "object") (T : OexB X.K C bmB newId) (I : Inv X pins σ H s) (e : H a = some (exo a C none)) (hno : PySem.W.findIn X.K (.ref C) f = some none) (ry : RelV y u)
    (h : ∀ dx s', H dx = none → dx ≠ a → Inv X pins σ (upd (upd H dx (exd dx [(f, y)])) a (exo a C (some dx))) s' → Q () s') : wpAny (model X.prog X.w) A (setAttr (.ref a) f u) Q E s := by
  obtain ⟨t1, ho⟩ := exo_at I.hok e
  obtain ⟨hp, g, d, t, os⟩ := s
  refine PySem.W.set_plain I.kIn (ox := { cls := .ref C, dict := none, data := .fields #[.ref t1, .none, .none, .none, .bool false, .none] }) (od := none) ⟨ho, rfl, rfl, trivial⟩ T.sa ?_
  refine exc_osaB SF I.kIn ho T.ovr T.hd hno (fun h' tk' dx k dn dne hx hn => ?_)
  have hnd : H dx = none := I.hok.fresh dn
  have old : ∀ {b : Addr} {o : Obj}, hp.get? b = some o → b ≠ dx := fun {b o} q z => absurd (Heap.lt_size (z ▸ q)) (Nat.not_lt.mpr dn)
  have ntr : ∀ {b : Addr}, H b = none → b ≠ a := fun {b} n => fun z => by rw [z, e] at n; cases n
  have sm : ∀ {b : Addr} {v : HO}, H b = some v → v ≠ exo a C none → upd (upd H dx (exd dx [(f, y)])) a (exo a C (some dx)) b = some v := fun {b v} q nv => by
    rw [upd_ne fun z => by rw [z, e] at q; exact nv (Option.some.inj q).symm, upd_ne (ne_of_none q hnd)]
    exact q
  refine h dx _ hnd dne (I.un (t' := tk') ⟨fun b o q n _ _ => k b o (ntr n) q, fun b o q n _ _ => ⟨o.slots, k b o (ntr n) q⟩, fun b o q n _ => (by rw [upd_ne (ntr n), upd_ne (old q)]; exact n), fun b o q _ => ?_, fun b xs q => sm q fun z => exo_tup z.symm, fun b o v q => sm q fun z => exo_frz z.symm, fun b ps q => ⟨#[], by rw [sm q fun z => exo_tbl z.symm]; simp⟩⟩ fun b o q => ?_)
  · rcases Classical.em (b = a) with hb | hb
    · exact ⟨_, by rw [hb]; exact hx⟩
    · exact ⟨o, k b o hb q⟩
  · rcases Classical.em (b = a) with hb | hb
    · subst hb
      rw [upd_same] at q
      cases q
      exact exo_ok hx
    · rw [upd_ne hb] at q
      rcases Classical.em (b = dx) with hd | hd
      · subst hd
        rw [upd_same] at q
        cases q
        exact exd_ok hn (relO_put (fs := []) ry fun g => True.intro)
      · rw [upd_ne hd] at q
        exact (I.hok b o q).stay (fun c v hc z => k c v (hc.elim (fun hc => hc ▸ hb) fun hc => at_ne e hc exo_own) z) (fun c hc => sm hc fun z => exo_own z.symm) fun c xs hc => sm hc fun z => exo_tup z.symm
end
section
variable {X : Cx} {o e : Expr} {to te : TE} {f : Str} {p p' pos : Pos} {B newId initId : String} {bmB : List Value}
def one1 (Q : VK) : List V → Hp → Prop
  | [y], H => Q y H
  | _, _ => False
theorem one1_inv {Q : VK} {vs : List V} {H : Hp} (h : one1 Q vs H) : ∃ y, vs = [y] ∧ Q y H := by
  unfold one1 at h
  split at h
  · exact ⟨_, rfl, h⟩
  · exact h.elim
/-- self.f = e, in an __init__: the first field -/
theorem ps_ostB {C : Addr} (SF : StoreFacts B bmB "object.__setattr__" "object") (T : OexB X.K C bmB newId) (hno : PySem.W.findIn X.K (.ref C) f = some none) (ho : PE X o to) (he : PE X e te) (hs : swapsWith e (some (.Attribute o f p')) pos.line X.env = pure false := by rfl) :
    PS X (.Assign [.Attribute o f p'] e pos) (fun D σ H => te σ H fun y H1 => to σ H1 fun x H2 => ∃ a : Addr, x = .ref a ∧ H2 a = some (exo a C none) ∧ ∀ dx, H2 dx = none → dx ≠ a → D.nx σ (upd (upd H2 dx (exd dx [(f, y)])) a (exo a C (some dx)))) := by
  refine ⟨fun pins s σ H D I h => ?_⟩
  refine plainObj_wpAny_Assign_Attribute (thn (he.run pins s σ H _ I h) fun v s1 ⟨y, H1, I1, r1, q1⟩ => thn (ho.run pins s1 σ H1 _ I1 q1) fun u s2 ⟨x, H2, I2, r2, a, ex, ea, q⟩ => ?_) hs
  subst ex
  obtain rfl : u = Value.ref a := r2
  exact ost_newB SF T I2 ea hno r1 fun dx s' n ne J => ⟨σ, _, J, q dx n ne⟩
def spIni (C : Addr) (f : Str) : Sp := fun vs H Q _ => ∃ (a : Addr) (y : V), vs = [.ref a, y] ∧ H a = some (exo a C none) ∧ ∀ dx, H dx = none → dx ≠ a → Q .non (upd (upd H dx (exd dx [(f, y)])) a (exo a C (some dx)))
/-- what is known of a class with such an __init__ -/
structure IniK (K : PySem.W.Frag) (C fI : Addr) (fd : FuncData) (bmB : List Value) (newId : String) (q : Str) (st : Stmt) (sn vn f : Str) : Prop where
  T : OexB K C bmB newId
  iC : PySem.W.findIn K (.ref C) "__init__" = some (some (.ref fI))
  tI : PySem.W.typeIn K (.ref fI) = some (.type "function")
  F : Fun K "__init__" q st fI fd
  S : FnScope [sn, vn] [sn, vn] (defScope st)
  sb : ∃ p1 p2 p3 p4, defBody st = [.Assign [.Attribute (.Name sn p1) f p2] (.Name vn p3) p4]
  hn : (sn == ("__debug__" : Str)) = false ∧ (sn == ("__classdict__" : Str)) = false ∧ (vn == ("__debug__" : Str)) = false ∧ (vn == ("__classdict__" : Str)) = false
  vs : (defScope st).names.lookup sn = some .local ∧ (defScope st).names.lookup vn = some .local
  no : PySem.W.findIn K (.ref C) f = some none
  bd : Binds K fd [sn, vn] []
theorem ini_ok {P : Program} {w : World} {K : PySem.W.Frag} {mg : Str → Option Value} {base : Heap} {C fI : Addr} {fd : FuncData} {q : Str} {st : Stmt} {sn vn : Str} (SF : StoreFacts B bmB "object.__setattr__" "object") (N : IniK K C fI fd bmB newId q st sn vn f) :
    FnOk P w K mg base (L2.CX P w) 1 fI fd [sn, vn] (spIni C f) := by
  refine Fun.okX N.F N.S (fun vs H Q E ⟨a, y, e, _⟩ => by rw [e]; rfl) fun cdv A outer s H vs Q E hr ⟨a, y, e, ea, h⟩ => ?_
  subst e
  obtain ⟨p1, p2, p3, p4, hb⟩ := N.sb
  rw [hb]
  exact ⟨_, pss_one (ps_ostB SF N.T N.no (pe_var (i := 0) rfl (.inl N.vs.1) N.hn.1 N.hn.2.1) (pe_var (i := 1) rfl (.inl N.vs.2) N.hn.2.2.1 N.hn.2.2.2)), _, rfl, _, rfl, a, rfl, ea, h⟩
theorem pmk_one {x : Str} {C fI : Addr} {fd : FuncData} {q : Str} {st : Stmt} {sn vn : Str} (SF : StoreFacts B bmB "object.__setattr__" "object") (FB : ExcBaseFacts B newId initId bmB) (N : IniK X.K C fI fd bmB newId q st sn vn f) (hr : Room 2 X.A) (hg : Gl X x) (hm : X.mg x = some (.ref C)) (ha : PE X e te)
    (hdb : (x == ("__debug__" : Str)) = false := by decide) (he : starEach [e] X.env = (false, eval e X.env) :: starEach [] X.env := by rfl) (hpl : (backTo pos (starEach [] X.env)).any (·.1) = false := by rfl) :
    PMk X (.Call (.Name x p) [e] [] pos) (fun σ H Q => te σ H fun y H1 => ∀ d, H1 d = none → Q (.ref C) (some d) (upd H1 d (.xd [(f, y)]))) := by
  intro pins s σ H Q I h
  refine wpAny_Call_Name_kw (ld_glob I hg hm ?_ hdb)
  refine PySem.W.callWith_K (h₀ := X.base) I.ok.mod.kin N.T.kC (thn ((pa_cons ha pa_nil he).run pos pins s σ H (one1 fun y H1 => ∀ d, H1 d = none → Q (.ref C) (some d) (upd H1 d (.xd [(f, y)]))) I h) fun us s1 ⟨vs, H1, I1, r1, q1⟩ => ⟨I1.kIn, ?_⟩) he hpl
  obtain ⟨y, ev, q1⟩ := one1_inv q1
  subst ev
  show wpAny _ _ (call (.ref C) us) _ _ _
  obtain ⟨nm, nsN, qn, bs, bm, hdct, sn', sub, ab, col, dd, k0, k1, k2, k3, k5, hC, hT⟩ := PySem.W.excInit_of I1.kIn N.T.ini
  have F1 := ini_ok (P := X.prog) (w := X.w) (mg := X.mg) (base := X.base) SF N
  cases r1 with
  | @cons _ u0 _ ur ra rw' =>
    cases rw'
    obtain ⟨hp, g, dr, tk, os⟩ := s1
    have hsz : hp.objs.size ≤ hp.objs.size + 1 := Nat.le_succ _
    have hn : H1 (hp.objs.size + 1) = none := I1.hok.fresh hsz
    have kk : ∀ b o, hp.get? b = some o → ((hp.push (PySem.W.kdv_tup [u0])).push (PySem.HandSPX.excO C hp.objs.size)).get? b = some o := fun b o e => Heap.get?_push_of_some _ (Heap.get?_push_of_some _ e)
    have hget : ((hp.push (PySem.W.kdv_tup [u0])).push (PySem.HandSPX.excO C hp.objs.size)).get? (hp.objs.size + 1) = some (PySem.HandSPX.excO C hp.objs.size) := by heap_get
    have I2 : Inv X pins σ (upd H1 (hp.objs.size + 1) (exo (hp.objs.size + 1) C none)) ⟨(hp.push (PySem.W.kdv_tup [u0])).push (PySem.HandSPX.excO C hp.objs.size), g, dr, tk, os⟩ :=
      I1.laid (t' := tk) (a := hp.objs.size + 1) (o := exo (hp.objs.size + 1) C none) (h' := (hp.push (PySem.W.kdv_tup [u0])).push (PySem.HandSPX.excO C hp.objs.size)) kk hsz (exo_ok hget)
    have r2 : Vals [V.ref (hp.objs.size + 1), y] [Value.ref (hp.objs.size + 1), u0] := .cons rfl (.cons ra .nil)
    refine wpAny_call (PySem.HandSPX.call_own FB hT hC (PySem.W.looks_findIn I1.kIn N.iC) (fun self => PySem.W.bind_fn I1.kIn self N.tI) (by show 1 ≤ sizeLine; rw [sizeLine_eq]; omega)
      (codeAny_mono (F1.run _ X.stack _ _ ⟨[Value.ref (hp.objs.size + 1), u0], []⟩ [Value.ref (hp.objs.size + 1), u0] _ (fun v H2 => v = .non ∧ ∃ d, H1 d = none ∧ d ≠ hp.objs.size + 1 ∧ H2 = upd (upd (upd H1 (hp.objs.size + 1) (exo (hp.objs.size + 1) C none)) d (exd d [(f, y)])) (hp.objs.size + 1) (exo (hp.objs.size + 1) C (some d))) (fun _ _ _ => False) (hr.make C [u0] []) (I2.env0.make C [u0] []) (N.bd _ [Value.ref (hp.objs.size + 1), u0] I2.kIn rfl) r2
        ⟨hp.objs.size + 1, y, rfl, upd_same, fun dx h1 h2 => ⟨rfl, dx, (upd_ne h2).symm.trans h1, h2, rfl⟩⟩) fun r s' hq' => ?_))
    cases r with
    | error er => exact (passL (X := X) pins σ _ _ er s' I2 hq')
    | ok fl =>
      cases fl with
      | ret u =>
        obtain ⟨v, H2, os2, bare2, un2, hok2, rv, ev, d, hd1, hda, rfl⟩ := hq'
        subst ev
        obtain ⟨h2, g2, d2, t2, os'⟩ := s'
        have q2 := q1 d hd1
        have eH : upd (del (upd (upd (upd H1 (hp.objs.size + 1) (exo (hp.objs.size + 1) C none)) d (exd d [(f, y)])) (hp.objs.size + 1) (exo (hp.objs.size + 1) C (some d))) (hp.objs.size + 1)) d (.xd [(f, y)]) = upd H1 d (.xd [(f, y)]) := by
          funext b
          rcases Classical.em (b = d) with e | e
          · rw [e, upd_same, upd_same]
          · rw [upd_ne e, upd_ne e]
            rcases Classical.em (b = hp.objs.size + 1) with e2 | e2
            · rw [e2, del_same, hn]
            · rw [del_ne e2, upd_ne e2, upd_ne e, upd_ne e2]
        exact ⟨rv, mk_end (raises_own N.T.exC N.T.tyC) I1 hsz kk un2 hok2 os2 bare2 upd_same (by rw [upd_ne hda, upd_same]) hd1 (by rw [eH]; exact q2)⟩
      | next => exact False.elim hq'
      | brk => exact False.elim hq'
      | cont => exact False.elim hq'
end
end PL

/-! try: .. except (X, Y, ..) as e: name = e. The error is kept in the name. -/
namespace PL
open PySem PySem.Spec PyProof.Rows L2
/-! ### the classes of a clause -/
theorem forIn_pass {M : Model} {A : Around} {E : Value → Shared → Prop} {s : Shared} {f : Value → PUnit → Sem (ForInStep PUnit)} : ∀ (cs : List Value) (Q : PUnit → Shared → Prop), (∀ c ∈ cs, ∀ (Q : ForInStep PUnit → Shared → Prop), Q (.yield ⟨⟩) s → wpAny M A (f c ⟨⟩) Q E s) → Q ⟨⟩ s → wpAny M A (forIn cs PUnit.unit f) Q E s
  | [], Q, _, q => by rw [List.forIn_nil]; exact wpAny_pure q
  | c :: cs, Q, h, q => by
    rw [List.forIn_cons]
    exact wpAny_bind (h c List.mem_cons_self _ (forIn_pass cs Q (fun c' hc => h c' (List.mem_cons_of_mem _ hc)) q))
theorem forIn_hit {M : Model} {A : Around} {E : Value → Shared → Prop} {s : Shared} {β : Type} {r0 r1 : β} {hit : Value → Bool} {f : Value → β → Sem (ForInStep β)} : ∀ (cs : List Value) (Q : β → Shared → Prop), (∀ c ∈ cs, ∀ (Q : ForInStep β → Shared → Prop), Q (if hit c = true then .done r1 else .yield r0) s → wpAny M A (f c r0) Q E s) → Q (if cs.any hit = true then r1 else r0) s → wpAny M A (forIn cs r0 f) Q E s
  | [], Q, _, q => by rw [List.forIn_nil]; exact wpAny_pure q
  | c :: cs, Q, h, q => by
    rw [List.forIn_cons]
    refine wpAny_bind (h c List.mem_cons_self _ ?_)
    rw [List.any_cons] at q
    cases e : hit c with
    | true =>
      rw [e, Bool.true_or] at q
      exact wpAny_pure q
    | false =>
      rw [e, Bool.false_or] at q
      exact forIn_hit cs Q (fun c' hc => h c' (List.mem_cons_of_mem _ hc)) q
def hitC (K : W.Frag) (cls c : Value) : Bool := (W.exmOne K cls c).getD false
theorem exmAny_mem {K : W.Frag} {cls : Value} : ∀ {cs : List Value} {b : Bool}, W.exmAny K cls cs = some b → (∀ c ∈ cs, W.exmOne K cls c = some (hitC K cls c)) ∧ b = cs.any (hitC K cls)
  | [], b, h => by
    have h : some false = some b := h
    cases h
    exact ⟨fun _ z => (by cases z), rfl⟩
  | c :: cs, b, h => by
    obtain ⟨b1, d1, h1, h2, h3⟩ := W.exmAny_cons h
    obtain ⟨k1, k2⟩ := exmAny_mem h2
    have e1 : hitC K cls c = b1 := by unfold hitC; rw [h1]; rfl
    refine ⟨fun c' hc => ?_, ?_⟩
    · rcases List.mem_cons.mp hc with e | e
      · rw [e, e1, h1]
      · exact k1 c' e
    · rw [h3, k2, List.any_cons, e1]
theorem exm_tupN {M : Model} {K : W.Frag} {cs : List Value} {cls : Value} {tp e : Addr} {b : Bool} {h : Heap} (X : K.In h) (LT : W.Looks M h (typeOf (.ref e)) cls) (hp : h.get? tp = some { cls := .type "tuple", data := .seq cs.toArray }) (hx : W.exmAny K cls cs = some b) :
    W.Looks M h (excMatches (.ref e) (.ref tp)) b := by
  intro A Q E s k₀ q
  obtain ⟨hh, g, d, tk, os⟩ := s
  have k : ∀ b o, h.get? b = some o → hh.get? b = some o := k₀
  have LT0 : W.Looks M h (isInstance (.ref tp) (.type "tuple")) true := ((W.Looks.ld hp).andThen .now).andThen (W.Looks.of_pure isSubtype_tuple_tuple)
  obtain ⟨k1, k2⟩ := exmAny_mem hx
  have hp' := k _ _ hp
  subst k2
  unfold excMatches
  refine wpAny_bind ((LT0.keeps k).at ?_)
  dsimp only
  rw [if_pos rfl]
  first
    | refine wpAny_bind (wpAny_seqItems hp' rfl ?_)
    | refine wpAny_bind (wpAny_bind (wpAny_seqItems hp' rfl (wpAny_pure ?_)))
  dsimp only [Option.getD_some, Option.getD]
  refine wpAny_bind (wpAny_pure ?_)
  refine wpAny_bind (forIn_pass _ _ (fun c hc Q q => ?_) ?_)
  · obtain ⟨e1, _⟩ := W.exm_cls (M := M) X (k1 c hc)
    refine wpAny_bind ((e1.keeps k).at ?_)
    rw [if_neg (show ¬ ((!true) = true) from by decide)]
    exact wpAny_pure q
  · refine wpAny_bind ((LT.keeps k).at ?_)
    refine wpAny_bind (forIn_hit (hit := hitC K cls) (r1 := (some true, ⟨⟩)) _ _ (fun c hc Q q => ?_) ?_)
    · obtain ⟨_, S1⟩ := W.exm_cls (M := M) X (k1 c hc)
      refine wpAny_bind ((S1.keeps k).at ?_)
      cases eh : hitC K cls c with
      | true =>
        rw [eh] at q
        exact wpAny_pure q
      | false =>
        rw [eh] at q
        exact wpAny_pure q
    · cases eh : cs.any (hitC K cls) with
      | true =>
        rw [eh] at q
        exact wpAny_pure q
      | false =>
        rw [eh] at q
        exact wpAny_pure q

/-! ### the names of a clause -/
abbrev Nm := Str × Pos × Value
def namesE (xs : List Nm) : List Expr := xs.map fun p => .Name p.1 p.2.1
theorem names_run {X : Cx} {E : Value → Shared → Prop} {pins : List (Addr × Obj)} {s : Shared} {σ : L2.St} {H : Hp} {pos : Pos} (I : Inv X pins σ H s) : ∀ (xs : List Nm) (Q : List Value → Shared → Prop), (∀ p ∈ xs, Names X p.1 p.2.2) → Q (xs.map (·.2.2)) s →
    wpAny (model X.prog X.w) X.A (spliced (backTo pos (starEach (namesE xs) X.env))) Q E s
  | [], Q, _, q => Calls.spliced_nil q
  | p :: xs, Q, h, q => by
    show wpAny _ _ (spliced ((false, eval (.Name p.1 p.2.1) X.env) :: backTo pos (starEach (namesE xs) X.env))) _ _ s
    have go : wpAny (model X.prog X.w) X.A (spliced (backTo pos (starEach (namesE xs) X.env))) (fun vs s₂ => Q (p.2.2 :: vs) s₂) E s := names_run I xs _ (fun p' hp => h p' (List.mem_cons_of_mem _ hp)) q
    obtain ⟨hg, hd, hm | ⟨hm, hv, hn⟩⟩ := h p List.mem_cons_self
    · exact Calls.spliced_cons (ld_glob I hg hm go hd)
    · exact Calls.spliced_cons (ld_blt I hg hm hv go hn hd)
theorem flyZ_push {B h : Heap} {l : List PySem.Env} {e : Addr} {Z : Obj → Prop} (o : Obj) (x : HandSPX.FlyingZ B l e Z h) : HandSPX.FlyingZ B l e Z (h.push o) := by
  obtain ⟨h1, h2, h3, oe, vs, T, oT, ts, k1, k2, k3, k4, k5, k6, k7, k8, k9⟩ := x
  exact ⟨fun b u e => Heap.get?_push_of_some _ (h1 b u e), h2, h3.of_keeps fun b u e _ => ⟨u, Heap.get?_push_of_some _ e, rfl⟩, oe, vs, T, oT, ts, Heap.get?_push_of_some _ k1, k2, k3, k4, k5, k6, Heap.get?_push_of_some _ k7, k8, k9⟩
theorem errO_ok {P : Program} {w : World} {H : Hp} {h : Heap} {a : Addr} {cls : Value} {dd : Option Addr} {oe : Obj} {vs : Array Value} (e : h.get? a = some oe) (z : Zc cls dd oe) (d : oe.data = .fields vs) : ObjOk P w H h a (ErrO cls dd a) :=
  ⟨⟨oe, vs, e, z, d⟩, ⟨oe, e⟩, fun _ _ ⟨o, v, q, r⟩ k => ⟨o, v, k o q, r⟩⟩
/-- what the clause wishes of an error of the body -/
def wKeepE (K : PySem.W.Frag) (cs : List Value) (i i2 : Nat) (D : Ends) : WX := fun cls d σ H =>
  PySem.W.exmAny K cls cs = some true ∧ ∀ a, H a = none → D.nx (((σ.set i (some (.ref a))).set i2 (some (.ref a))).set i none) (upd H a (ErrO cls d a))
section
variable {X : Cx} {n cn : Str} {xs : List Nm} {i i2 : Nat} {body : List Stmt} {kx : Nat} {tp p1 p2 p3 pos pos' : Pos} {tb : WX → TS}
theorem ps_try_keep (hs : X.stack = X.env :: X.outer) (hf : X.env.frame = some X.env.locals) (hN : X.N.Nodup) (hi : X.N[i]? = some n) (hln : X.env.kindOf n = some .local) (hi2 : X.N[i2]? = some cn) (hl2 : X.env.kindOf cn = some .local) (hz : xs.length ≤ sizeLine) (hc : ∀ p ∈ xs, Names X p.1 p.2.2)
    (hdn : (n == ("__debug__" : Str)) = false) (hcn : (n == ("__classdict__" : Str)) = false)
    (hb : ∀ (W : WX) (pn : List (Addr × Obj)) (xe : Value → Shared → Prop), Takes (X.tr pn xe) W → PassesOwn (model X.prog X.w) X.A X.env xe → PSs (X.tr pn xe) body (tb W)) :
    PS X (.Try body [.ExceptHandler (some (.Tuple (namesE xs) kx tp)) (some n) [.Assign [.Name cn p1] (.Name n p2) p3] pos'] [] [] pos) (fun D σ H => tb (wKeepE X.K (xs.map (·.2.2)) i i2 D) D σ H) := by
  refine ⟨fun pins s σ H D I h => ?_⟩
  have ok := I.ok
  have hfr : X.A.frames = some (X.env :: X.outer) := by rw [ok.frames, hs]
  have hloc : Loc X.env.scope n := .inl hln
  refine wpAny_Try_except ?_
  refine wpAny_mono ((hb (wKeepE X.K (xs.map (·.2.2)) i i2 D) (X.pn ++ pins) (fun e s₁ => wpAny (model X.prog X.w) X.A (noteFrame e X.env) (fun _ s₂ => wpAny (model X.prog X.w) X.A (setFlight e none) (fun _ s₃ =>
    wpAny (model X.prog X.w) X.A (handleBy e X.env [.ExceptHandler (some (.Tuple (namesE xs) kx tp)) (some n) [.Assign [.Name cn p1] (.Name n p2) p3] pos']) (SP X pins D) X.xe s₃) X.xe s₂) X.xe s₁) (fun u s' xx => ?_) PassesOwn.looking).run [] s σ H D (I.toTry _) h) (fun f s1 hsp => ?_) (fun e s1 he => he)
  · obtain ⟨a, B, sI, pins', σ', H', cls, d, rfl, J', nb, up, sky, na, os, ag, hb1, hyes⟩ := xx
    have J : Inv X pins σ' H' sI := J'.ofTry ok
    have sky' : Sky B (X.env :: X.outer) a (Zc cls d) X.env.locals s'.heap := by rw [← hs]; exact sky
    show wpAny (model X.prog X.w) X.A (noteFrame (.ref a) X.env) _ _ _
    refine Sky.land Zc.steady hfr hf sky' fun h3 fl3 up3 => ?_
    have J3 : Inv X pins σ' H' { s' with heap := h3 } := J.landed nb fl3.1 (up.trans up3) os ag
    obtain ⟨oe3, vs3, he3, hz3, hd3⟩ := fl3.there
    have nfr : a ∉ frs (X.env :: X.outer) := fun hm => by
      obtain ⟨_, o', e', hnf⟩ := fl3.2.2.1.mem hm
      rw [he3] at e'; cases e'
      exact hnf _ hd3
    have nL : a ≠ X.env.locals := fun z => nfr (List.mem_filterMap.mpr ⟨X.env, List.mem_cons_self, by rw [hf, z]⟩)
    have nF : a ∉ X.fs := fun hm => by
      obtain ⟨e, he, q⟩ := List.mem_filterMap.mp hm
      exact nfr (List.mem_filterMap.mpr ⟨e, List.mem_cons_of_mem _ he, q⟩)
    have S3 := J3.suite he3 hd3 na nL nF
    refine wpAny_handleBy_cons (codeAny_handlers_test ?_) (by intro q; cases q)
    refine wpAny_Tuple_spliced (names_run (X := X.suite a ((a, oe3) :: (X.pn ++ pins))) S3 xs _ (fun p hp => hc p hp) ⟨by rw [List.length_map]; exact hz, ?_⟩)
    have flP := flyZ_push { cls := .type "tuple", data := .seq (xs.map (·.2.2)).toArray } fl3
    have upP : s'.heap.UpToSlots (h3.push { cls := .type "tuple", data := .seq (xs.map (·.2.2)).toArray }) := up3.trans (Heap.UpToSlots.of_keeps fun b o e => Heap.get?_push_of_some _ e)
    have heP : (h3.push { cls := .type "tuple", data := .seq (xs.map (·.2.2)).toArray }).get? a = some oe3 := Heap.get?_push_of_some _ he3
    have LT : PySem.W.Looks (model X.prog X.w) (h3.push { cls := .type "tuple", data := .seq (xs.map (·.2.2)).toArray }) (typeOf (.ref a)) cls := fun A Q E s k q => wpAny_typeOf_ref (k _ _ heP) (by rw [hz3.1]; exact q)
    have KP : X.K.In (h3.push { cls := .type "tuple", data := .seq (xs.map (·.2.2)).toArray }) := fun b o e => Heap.get?_push_of_some _ (J3.kIn b o e)
    have LM := exm_tupN (M := model X.prog X.w) KP LT (Heap.get?_push_size _ rfl) hb1
    refine LM.here ?_
    refine codeAny_handlers_suite_as ?_
    refine HandSPX.lands_againZ flP fun h4 fl4 up4 => ?_
    obtain ⟨oe4, vs4, he4, hz4, hd4⟩ := fl4.there
    -- the error is told from now on
    obtain ⟨G4, g1, g2⟩ := restrict h4 fun b => decide (b ≠ a)
    have gk : ∀ b, b ≠ a → G4.get? b = h4.get? b := fun b hb => g1 b (decide_eq_true hb)
    have ga : G4.get? a = none := g2 a (decide_eq_false fun z => z rfl)
    have gs : ∀ b o, G4.get? b = some o → h4.get? b = some o := fun b o e => by
      rcases Classical.em (b = a) with hb | hb
      · rw [hb, ga] at e; cases e
      · rw [← gk b hb]; exact e
    have nB : ∀ b o, B.get? b = some o → b ≠ a := fun b o e z => by rw [z, fl4.2.1] at e; cases e
    have nI : ∀ b o, sI.heap.get? b = some o → b ≠ a := fun b o e z => by
      have q := nb b o e (by rw [z, hs]; exact nfr)
      exact nB b o q z
    have upG : sI.heap.UpToSlots G4 := fun b o e hd => by
      obtain ⟨sl, q⟩ := (up.trans (upP.trans up4)) b o e hd
      exact ⟨sl, by rw [gk b (nI b o e)]; exact q⟩
    have JG : Inv X pins σ' H' { s' with heap := G4 } := J.landed nb (fun b o e => by rw [gk b (nB b o e)]; exact fl4.1 b o e) upG os ag
    have J4 : Inv X pins σ' (upd H' a (ErrO cls d a)) { s' with heap := h4 } := JG.laidN (t' := s'.toks) gs ga na (errO_ok he4 hz4 hd4)
    have S4 : Inv (X.suite a (X.pn ++ pins)) [] σ' (upd H' a (ErrO cls d a)) { s' with heap := h4 } :=
      ⟨J4.ok.suite _ _, J4.os, J4.bare, J4.base, J4.loc, J4.cell, J4.free, J4.freeC, fun p hp => J4.pin p (by rw [List.append_nil] at hp; exact hp), J4.hok, J4.len⟩
    have un : ∀ {σ6 : L2.St} {H6 : Hp} {s6 : Shared}, Inv (X.suite a (X.pn ++ pins)) [] σ6 H6 s6 → Inv X pins σ6 H6 s6 := fun {σ6 H6 s6} S => ⟨ok, S.os, S.bare, S.base, S.loc, S.cell, S.free, S.freeC, fun p hp => S.pin p (by rw [List.append_nil]; exact hp), S.hok, S.len⟩
    refine store_ok (X := X.suite a (X.pn ++ pins)) (v := .ref a) S4 hN hi hloc rfl (fun s5 S5 => ?_) (.inr hln)
    have hiσ : i < σ'.length := by rw [J4.len]; exact (List.getElem?_eq_some_iff.mp hi).1
    have suite : PSs (X.suite a (X.pn ++ pins)) [.Assign [.Name cn p1] (.Name n p2) p3] _ := pss_one (ps_set (i := i2) hN hi2 (.inl hl2) (pe_var (i := i) hi (.inl hln) hdn hcn) (hf := .inr hl2))
    refine wpAny_mono (suite.run [] s5 _ _ { nx := fun σ6 H6 => σ6 = (σ'.set i (some (.ref a))).set i2 (some (.ref a)) ∧ H6 = upd H' a (ErrO cls d a), rt := fun _ _ => False, bk := fun _ _ => False, ct := fun _ _ => False } S5 ⟨.ref a, by rw [List.getElem?_set_self hiσ], rfl, rfl⟩) (fun f s6 hsp => ?_) (fun _ _ z => False.elim z)
    cases f with
    | next =>
      obtain ⟨σ6, H6, S6, rfl, rfl⟩ := hsp
      exact gone_ok (un S6) hN hi hln fun s7 J7 => ⟨_, _, J7, hyes a na⟩
    | brk =>
      obtain ⟨σ6, H6, S6, q6⟩ := hsp
      exact q6.elim
    | cont =>
      obtain ⟨σ6, H6, S6, q6⟩ := hsp
      exact q6.elim
    | ret u =>
      obtain ⟨v6, σ6, H6, S6, r6, q6⟩ := hsp
      exact q6.elim
  · cases f with
    | next =>
      obtain ⟨σ', H', J', q⟩ := hsp
      exact wpAny_execs_nil ⟨σ', H', J'.ofTry ok, q⟩
    | brk =>
      obtain ⟨σ', H', J', q⟩ := hsp
      exact ⟨σ', H', J'.ofTry ok, q⟩
    | cont =>
      obtain ⟨σ', H', J', q⟩ := hsp
      exact ⟨σ', H', J'.ofTry ok, q⟩
    | ret u =>
      obtain ⟨v, σ', H', J', r, q⟩ := hsp
      exact ⟨v, σ', H', J'.ofTry ok, r, q⟩
end
end PL

/-! The layer: raise, try that keeps its error, isinstance of an error that was kept, its field. -/
namespace PL
open PySem PySem.Spec PyProof.Rows L2
/-! ### classes of errors -/
/-- the names of the errors with the names of their classes -/
abbrev ETab := List (Str × List Str)
def isS (t : ETab) (y c : Str) : Bool := ((t.lookup y).getD []).contains c
def kn (t : ETab) (y : Str) : Bool := (t.lookup y).isSome
structure ErrI (K : PySem.W.Frag) (mg : Str → Option Value) (t : ETab) (cs : List (Str × Value)) : Prop where
  ex : ∀ y A, mg y = some (.ref A) → kn t y = true → ExcC K A
  is : ∀ y A, mg y = some (.ref A) → kn t y = true → ∀ p ∈ cs, PySem.W.kitOne K (.ref A) p.2 = some (isS t y p.1) ∧ PySem.W.exmOne K (.ref A) p.2 = some (isS t y p.1)
def excCB (K : PySem.W.Frag) (D : Addr) : Bool := (PySem.W.findIn K (.ref D) "__getattribute__" == some (some (.builtin "BaseException.__getattribute__"))) && (PySem.W.findIn K (.ref D) "__getattr__" == some none) && (PySem.W.subIn K (.ref D) (.type "BaseException") == some true) && PySem.W.hasDictIn K D &&
  (PySem.W.findIn K (.ref D) "__class__" == some (some (.builtin "object.__class__"))) && (PySem.W.specialIn K (.builtin "object.__class__") "__get__" == some (some (.builtin "getset_descriptor.__get__"))) && (PySem.W.takesIn K (.builtin "object.__class__") == some true) && (PySem.W.mroIn K D (.type "object") == some true)
theorem excCB_ok {K : PySem.W.Frag} {D : Addr} (h : excCB K D = true) : ExcC K D := by
  unfold excCB at h
  simp only [Bool.and_eq_true, beq_iff_eq] at h
  obtain ⟨⟨⟨⟨⟨⟨⟨h1, h2⟩, h3⟩, h4⟩, h5⟩, h6⟩, h7⟩, h8⟩ := h
  exact ⟨h1, h2, h3, h4, h5, h6, h7, h8⟩
def errChk (K : PySem.W.Frag) (t : ETab) (as : List (Str × Addr)) (cs : List (Str × Value)) : Bool :=
  as.all fun a => excCB K a.2 && cs.all fun p => (PySem.W.kitOne K (.ref a.2) p.2 == some (isS t a.1 p.1)) && (PySem.W.exmOne K (.ref a.2) p.2 == some (isS t a.1 p.1))
theorem errI_of {K : PySem.W.Frag} {mg : Str → Option Value} {t : ETab} {as : List (Str × Addr)} {cs : List (Str × Value)} (hm : ∀ a ∈ as, mg a.1 = some (.ref a.2)) (hk : t.all (fun p => as.any fun a => a.1 == p.1) = true) (h : errChk K t as cs = true) : ErrI K mg t cs := by
  have key : ∀ y A, mg y = some (.ref A) → kn t y = true → (y, A) ∈ as := fun y A e k => by
    unfold kn at k
    obtain ⟨l, hl⟩ := Option.isSome_iff_exists.mp k
    have hy : (y, l) ∈ t := PySem.mem_of_lookup hl
    obtain ⟨a, ha, he⟩ := List.any_eq_true.mp (List.all_eq_true.mp hk _ hy)
    have e2 : a.1 = y := eq_of_beq he
    have e3 := hm a ha
    rw [e2, e] at e3
    have e4 : A = a.2 := by cases e3; rfl
    rw [← e2, e4]
    exact ha
  have all := List.all_eq_true.mp h
  refine ⟨fun y A e k => ?_, fun y A e k p hp => ?_⟩
  · have q := all _ (key y A e k)
    rw [Bool.and_eq_true] at q
    exact excCB_ok q.1
  · have q := all _ (key y A e k)
    rw [Bool.and_eq_true] at q
    have q2 := List.all_eq_true.mp q.2 p hp
    rw [Bool.and_eq_true, beq_iff_eq, beq_iff_eq] at q2
    exact q2
theorem exmAny_of {K : PySem.W.Frag} {cls : Value} {f : Str → Bool} : ∀ (cs : List (Str × Value)), (∀ p ∈ cs, PySem.W.exmOne K cls p.2 = some (f p.1)) → PySem.W.exmAny K cls (cs.map (·.2)) = some ((cs.map (·.1)).any f)
  | [], _ => rfl
  | p :: cs, h => by
    have h1 := h p List.mem_cons_self
    have h2 := exmAny_of cs fun q hq => h q (List.mem_cons_of_mem _ hq)
    show PySem.W.exmAny K cls (p.2 :: cs.map (·.2)) = some (f p.1 || (cs.map (·.1)).any f)
    unfold PySem.W.exmAny
    rw [h1, h2]
theorem kitAny_of {K : PySem.W.Frag} {cls : Value} {f : Str → Bool} : ∀ (cs : List (Str × Value)), (∀ p ∈ cs, PySem.W.kitOne K cls p.2 = some (f p.1)) → PySem.W.kitAny K cls (cs.map (·.2)) = some ((cs.map (·.1)).any f)
  | [], _ => rfl
  | p :: cs, h => by
    have h1 := h p List.mem_cons_self
    have h2 := kitAny_of cs fun q hq => h q (List.mem_cons_of_mem _ hq)
    show PySem.W.kitAny K cls (p.2 :: cs.map (·.2)) = some (f p.1 || (cs.map (·.1)).any f)
    unfold PySem.W.kitAny
    rw [h1, h2]
    cases f p.1 <;> rfl

/-! ### names take anything that is not one's own -/
section
variable {G : PenK} {K : PySem.W.Frag} {c : C} {σ : L2.St} {ρ : Env} {H : Hp} {n : Nt}
theorem SI.setS {i : Nat} {sv : SV} {o : Option V} (I : SI G K c σ H ρ n) (ho : sv.isOwn = false) (r : SlotOk G K c H sv o) : SI G K c (σ.set i o) H (ρ.set i sv) n := by
  have key : ∀ j s, (ρ.set i sv)[j]? = some s → (j = i ∧ s = sv ∧ slot (σ.set i o) j = o) ∨ (i ≠ j ∧ ρ[j]? = some s ∧ slot (σ.set i o) j = slot σ j) := fun j s e => by
    rcases Classical.em (i = j) with h | h
    · subst h
      have hl : i < ρ.length := by
        have := (List.getElem?_eq_some_iff.mp e).1
        rwa [List.length_set] at this
      rw [List.getElem?_set_self hl] at e
      exact .inl ⟨rfl, (Option.some.inj e).symm, slot_set_same (I.len ▸ hl)⟩
    · rw [List.getElem?_set_ne h] at e
      exact .inr ⟨h, e, slot_set_ne h⟩
  refine ⟨by rw [List.length_set, List.length_set, I.len], fun j s e => ?_, fun j s a e hs es => ?_, fun j k s s' a hn e e' hs hs' es es' => ?_, I.dom, I.fr, I.pen, I.no, I.tab, I.mu, I.mu0, I.mz⟩
  · rcases key j s e with ⟨_, rfl, h⟩ | ⟨_, h, h2⟩
    · rw [h]; exact r
    · rw [h2]; exact I.slots j s h
  · rcases key j s e with ⟨_, rfl, h⟩ | ⟨_, h, h2⟩
    · rw [ho] at hs; cases hs
    · exact I.own j s a h hs (h2 ▸ es)
  · rcases key j s e with ⟨_, rfl, h⟩ | ⟨_, h, h2⟩
    · rw [ho] at hs; cases hs
    · rcases key k s' e' with ⟨_, rfl, h'⟩ | ⟨_, h', h2'⟩
      · rw [ho] at hs'; cases hs'
      · exact I.apart j k s s' a hn h h' hs hs' (h2 ▸ es) (h2' ▸ es')
end

section
variable {G : PenK} {X : Cx} {Wx : WX} {γ : Type} {En : Enz γ} {ρ : Env} {rest : List Stmt} {m : W γ}
/-! ### raise -/
/-- an error's class with one field, over some built-in class -/
def ErrK (K : PySem.W.Frag) (mg : Str → Option Value) (x f : Str) : Prop :=
  ∃ (B newId initId : String) (bmB : List Value) (C fI : Addr) (fd : FuncData) (q : Str) (st : Stmt) (sn vn : Str), StoreFacts B bmB "object.__setattr__" "object" ∧ ExcBaseFacts B newId initId bmB ∧ IniK K C fI fd bmB newId q st sn vn f ∧ mg x = some (.ref C)
theorem sg_raise1 {x f : Str} {e : Expr} {p q pos : Pos} {g : Env → W D} {m0 : W D} (k : ErrK X.K X.mg x f) (hc : X.calm = true) (hr : Room 2 X.A) (tk : Takes X Wx) (h : E G X Wx e g) (hg : g (bor ρ) = m0) (hx : Gl X x)
    (hdb : (x == ("__debug__" : Str)) = false := by decide) (he : starEach [e] X.env = (false, eval e X.env) :: starEach [] X.env := by rfl) (hpl : (backTo q (starEach [] X.env)).any (·.1) = false := by rfl) :
    SG G X Wx (.Raise (some (.Call (.Name x p) [e] [] q)) none pos :: rest) ρ En (bnd m0 fun d => rse (x, [(f, d)])) := by
  obtain ⟨B, newId, initId, bmB, C, fI, fd, qn, st, sn, vn, SF, FB, N, hm⟩ := k
  refine weakSs (pss_cons (ps_raise hc tk (pmk_one SF FB N hr hx hm h hdb he hpl)) pss_no) fun Dn σ H ⟨c, n, P, PX, I, q, hgl, hxx⟩ => ?_
  obtain ⟨I2, g2⟩ := I.lend
  subst hg
  refine tE.bnd (f := fun d => (rse (x, [(f, d)]) : W γ)) I2 q (hxx.grow g2).x fun d k v S' H' p g I' hx' r dd hdd => ?_
  obtain ⟨I3, g3⟩ := I'.laid (o := .xd [(f, v)]) hdd
  exact hx' (x, [(f, d)]) k _ _ _ _ p g3 I3 ⟨C, hm, rfl, .inr ⟨dd, _, rfl, .inr rfl, upd_same, .cons ⟨rfl, Rep.grow g3 _ _ r⟩ .nil⟩⟩
/-! ### try -/
def tryW {α γ : Type} (m : W α) (k : α → W γ) (h : Exc → W γ) : W γ := fun n P PX => m n (fun a j => k a j P PX) fun x j => h x j P PX
abbrev namesS (xs : List Nm) : List Str := xs.map fun p => p.1
/-- caught by a clause with these classes -/
def cat (t : ETab) (ys : List Str) (x : Exc) : Bool := kn t x.1 && ys.any (isS t x.1)
theorem onB_inv {α : Type} {b : Bool} {m : W α} {k : Nt} {P : α → Nt → Prop} {PX : Exc → Nt → Prop} (h : onB b m k P PX) : b = true ∧ m k P PX := by
  cases b with
  | true => exact ⟨rfl, h⟩
  | false => exact h.elim
/-- try: return e / except (X, Y, ..) as n: cn = n -/
theorem sg_tryRet {e : Expr} {n cn : Str} {xs : List Nm} {i i2 kx : Nat} {pr tp p1 p2 p3 pos pos' : Pos} {g : Env → W D} {m0 : W D} {r : D → W γ} {hd : Exc → W γ} {emb : Exc → Env} {t : ETab} {cs : List (Str × Value)} (T : ErrI X.K X.mg t cs) (hG : G.mg = X.mg)
    (hs : X.stack = X.env :: X.outer) (hf : X.env.frame = some X.env.locals) (hN : X.N.Nodup) (hi : X.N[i]? = some n) (hln : X.env.kindOf n = some .local) (hi2 : X.N[i2]? = some cn) (hl2 : X.env.kindOf cn = some .local) (hz : xs.length ≤ sizeLine) (hc : ∀ p ∈ xs, Names X p.1 p.2.2)
    (hxs : ∀ p ∈ xs.map (fun p => (p.1, p.2.2)), p ∈ cs) (hdn : (n == ("__debug__" : Str)) = false) (hcn : (n == ("__classdict__" : Str)) = false)
    (hE : ∀ (W : WX) (pn : List (Addr × Obj)) (xe : Value → Shared → Prop), Takes (X.tr pn xe) W → PassesOwn (model X.prog X.w) X.A X.env xe → E G (X.tr pn xe) W e g) (hg : g ρ = m0) (hr : ∀ d, En.rt d (r d))
    (hρ : ∀ x, ((ρ.set i .un).set i2 (.exc x)).set i .un = emb x) (hh : ∀ x, SG G X Wx rest (emb x) En (hd x)) :
    SG G X Wx (.Try [.Return (some e) pr] [.ExceptHandler (some (.Tuple (namesE xs) kx tp)) (some n) [.Assign [.Name cn p1] (.Name n p2) p3] pos'] [] [] pos :: rest) ρ En
      (tryW m0 r fun x => onB (cat t (namesS xs) x) (hd x)) := by
  refine weakSs (pss_cons (ps_try_keep hs hf hN hi hln hi2 hl2 hz hc hdn hcn (tb := fun W Dn σ H => tE G X W g σ H Dn.rt) fun W pn xe tk hp => pss_one (ps_ret (hE W pn xe tk hp))) (pss_un hh)) fun Dn σ H ⟨c, n, P, PX, I, q, hgl, hx⟩ => ?_
  subst hg
  refine ⟨c, ρ, n, fun d j => r d j P PX, fun x j => (onB (cat t (namesS xs) x) (hd x) : W γ) j P PX, I, q, fun d k v S' H' p g I' rv => hgl.2.1 d (r d) k v σ _ S' H' (hr d) p g I' rv, fun x k S' H' cls dd p g I' rx => ?_⟩
  obtain ⟨hk, hp⟩ := onB_inv (show onB (cat t (namesS xs) x) (hd x) k P PX from p)
  unfold cat at hk
  rw [Bool.and_eq_true] at hk
  obtain ⟨A, hA, ec, _⟩ := id rx
  subst ec
  refine ⟨?_, fun a ha => ?_⟩
  · have := exmAny_of (f := isS t x.1) (xs.map fun p => (p.1, p.2.2)) fun p hp => (T.is x.1 A hA hk.1 p (hxs p hp)).2
    rw [List.map_map, List.map_map] at this
    rw [show xs.map (·.2.2) = xs.map ((·.2) ∘ fun p => (p.1, p.2.2)) from rfl, this, show xs.map ((·.1) ∘ fun p => (p.1, p.2.2)) = namesS xs from rfl, hk.2]
  · obtain ⟨I2, g2⟩ := I'.laid (o := ErrO (.ref A) dd a) ha
    have I3 := ((I2.setS (i := i) (sv := .un) (o := some (.ref a)) rfl True.intro).setS (i := i2) (sv := .exc x) (o := some (.ref a)) rfl ⟨a, .ref A, dd, rfl, .inr rfl, upd_same, by rw [hG]; exact rx.grow g2⟩).setS (i := i) (sv := .un) (o := none) rfl True.intro
    rw [hρ x] at I3
    exact ⟨x, _, k, P, PX, I3, hp, hgl.grow (g.trans g2), hx.grow (g.trans g2)⟩
end
end PL

/-! The layer: isinstance of an error that was kept, its field. -/
namespace PL
open PySem PySem.Spec PyProof.Rows L2
/-! ### isinstance -/
def XAt (H : Hp) (a D : Addr) : Prop := ∃ dd : Option Addr, H a = some (ErrO (.ref D) dd a) ∧ (dd = none ∨ ∃ d fv, dd = some d ∧ H d = some (.xd fv))
theorem xAt_inst {P : Program} {w : World} {H : Hp} {h : Heap} {a D : Addr} (hok : HOk P w H h) (x : XAt H a D) : ∃ ox od, PySem.W.InstAt h a ox D od := by
  obtain ⟨dd, e, hd⟩ := x
  have q : ObjOk P w H h a (.ext fun h => ∃ (oe : Obj) (vs : Array Value), h.get? a = some oe ∧ Zc (.ref D) dd oe ∧ oe.data = .fields vs) := hok a _ e
  obtain ⟨⟨oe, vs, ho, hz, hv⟩, _⟩ := q
  obtain ⟨z1, z2⟩ := id hz
  rcases hd with rfl | ⟨d, fv, rfl, h2⟩
  · exact ⟨oe, none, ⟨ho, z1, by unfold PySem.W.notCls; rw [hv] <;> rfl, by rw [z2]; trivial⟩⟩
  · have hx : ObjOk P w H h d (.xd fv) := hok d _ h2
    obtain ⟨mA, hns, hr⟩ := hx
    obtain ⟨od, ho2, hl⟩ := lookIn_ns hns
    exact ⟨oe, some od, ⟨ho, z1, by unfold PySem.W.notCls; rw [hv] <;> rfl, by rw [z2]; exact ho2⟩⟩
theorem kitx_X {K : PySem.W.Frag} {a D : Addr} {ox : Obj} {od : Option Obj} (C : ExcC K D) : PySem.W.KitX K (.ref a) (.ref D) (fun h => PySem.W.InstAt h a ox D od) :=
  PySem.W.kitx_exc (gt := none) (by obtain ⟨cd, hc, _⟩ := PySem.W.any_some C.hd; rw [hc]; rfl) C.hg C.hk C.hs C.ha C.hn C.ht C.hm
def rIsX (K : PySem.W.Frag) : List V → Hp → VK → Prop := fun xs H Q => ∃ (a D : Addr) (c : V) (cv : Value) (b : Bool), xs = [.ref a, c] ∧ XAt H a D ∧ ExcC K D ∧ ClsV c cv ∧ PySem.W.kitOne K (.ref D) cv = some b ∧ Q (.bl b) H
theorem call_isX {X : Cx} : CallR X (.builtin "isinstance") (rIsX X.K) := by
  intro pins s σ H xs us Q I r h
  obtain ⟨a, D, c, cv, b, rfl, x, C, k, e, q⟩ := h
  obtain ⟨u1, u2, rfl, r1, r2⟩ := vals2 r
  have e2 := k.eq r2
  subst e2
  cases (show u1 = Value.ref a from r1)
  obtain ⟨ox, od, J⟩ := xAt_inst I.hok x
  exact PySem.W.kia_one (kitx_X C) I.kIn J e (fun z => nomatch z) fun tk => ⟨.bl b, H, I.tok tk, rfl, q⟩
def rIsXT (K : PySem.W.Frag) : List V → Hp → VK → Prop := fun xs H Q => ∃ (a D tp : Addr) (cs : List V) (ws : List Value) (b : Bool), xs = [.ref a, .ref tp] ∧ XAt H a D ∧ ExcC K D ∧ H tp = some (.tup cs) ∧ Paired ClsV cs ws ∧ PySem.W.kitAny K (.ref D) ws = some b ∧ Q (.bl b) H
theorem call_isXT {X : Cx} : CallR X (.builtin "isinstance") (rIsXT X.K) := by
  intro pins s σ H xs us Q I r h
  obtain ⟨a, D, tp, cs, ws, b, rfl, x, C, hT, k, e, q⟩ := h
  obtain ⟨u1, u2, rfl, r1, r2⟩ := vals2 r
  cases (show u1 = Value.ref a from r1)
  cases (show u2 = Value.ref tp from r2)
  obtain ⟨ox, od, J⟩ := xAt_inst I.hok x
  obtain ⟨_, its, rv, o, h1, h2, n, h3⟩ := (show ObjOk X.prog X.w H s.heap tp (.tup cs) from I.hok tp _ hT)
  have e3 := ClsV.all k rv
  subst e3
  obtain ⟨oc, od', dt, sl⟩ := o
  simp only at h2 h3
  subst h2 h3
  exact PySem.W.kia_tup (kitx_X C) I.kIn J h1 e (fun z => nomatch z) fun tk => ⟨.bl b, H, I.tok tk, rfl, q⟩
/-- a class by its value -/
def cV : Value → V
  | .ref C => .ref C
  | .type T => .ty T
  | _ => .non
def isCl : Value → Bool
  | .ref _ => true
  | .type _ => true
  | _ => false
theorem cV_cls {c : Value} (h : isCl c = true) : ClsV (cV c) c := by
  cases c with
  | ref C => exact .own C
  | type T => exact .ty T
  | _ => cases h
section
variable {G : PenK} {X : Cx} {Wx : WX} {γ : Type} {En : Enz γ} {ρ : Env} {rest : List Stmt} {m : W γ}
theorem pe_cls {x : Str} {c : Value} {p : Pos} (h : Names X x c) (hc : isCl c = true) : PE X (.Name x p) (tC (cV c)) := by
  have r : RelV (cV c) c := by
    cases c with
    | ref C => rfl
    | type T => rfl
    | _ => cases hc
  obtain ⟨hg, hd, hm | ⟨hm, hv, hn⟩⟩ := h
  · exact pe_glob hg hm r hd
  · exact pe_bltn hg hm hv r hn hd
theorem pa_cls : ∀ (xs : List Nm), (∀ p ∈ xs, Names X p.1 p.2.2 ∧ isCl p.2.2 = true) → PA X (namesE xs) (fun _ H Q => Q (xs.map fun p => cV p.2.2) H)
  | [], _ => pa_nil
  | p :: xs, h => weakA (pa_cons (pe_cls (h p List.mem_cons_self).1 (h p List.mem_cons_self).2) (pa_cls xs fun q hq => h q (List.mem_cons_of_mem _ hq)) (by rfl)) fun σ H Q q => q
theorem clsV_all : ∀ (xs : List Nm), (∀ p ∈ xs, isCl p.2.2 = true) → Paired ClsV (xs.map fun p => cV p.2.2) (xs.map fun p => p.2.2)
  | [], _ => .nil
  | p :: xs, h => .cons (cV_cls (h p List.mem_cons_self)) (clsV_all xs fun q hq => h q (List.mem_cons_of_mem _ hq))
/-- the error that a name holds -/
def excAt {α : Type} (ρ : Env) (i : Nat) (f : Exc → W α) : W α := match svAt ρ i with
  | .exc x => f x
  | _ => stuck
theorem excAt_inv {α : Type} {ρ : Env} {i : Nat} {n : Nt} {f : Exc → W α} {P : α → Nt → Prop} {PX : Exc → Nt → Prop} (h : excAt ρ i f n P PX) : ∃ x, ρ[i]? = some (.exc x) ∧ f x n P PX := by
  unfold excAt svAt at h
  cases e : ρ[i]? with
  | none => rw [e] at h; exact h.elim
  | some sv =>
    rw [e] at h
    cases sv with
    | exc x => exact ⟨x, rfl, h⟩
    | _ => exact h.elim
theorem SI.exc {K : PySem.W.Frag} {c : C} {σ : L2.St} {H : Hp} {n : Nt} {i : Nat} {x : Exc} (I : SI G K c σ H ρ n) (e : ρ[i]? = some (.exc x)) : ∃ a D dd, slot σ i = some (.ref a) ∧ XAt H a D ∧ G.mg x.1 = some (.ref D) ∧ H a = some (ErrO (.ref D) dd a) ∧ RepX K G.mg c.S H x (.ref D) dd := by
  obtain ⟨a, cls, dd, e1, hs, ha, r⟩ := I.slots i _ e
  obtain ⟨D, h1, h2, h3⟩ := id r
  subst h2
  exact ⟨a, D, dd, e1, ⟨dd, ha, h3.elim (fun z => .inl z.2) fun ⟨d, fv, e, _, hd, _⟩ => .inr ⟨d, fv, e, hd⟩⟩, h1, ha, r⟩
def isW (t : ETab) (y : Str) (e : Exc) : W D := onB (kn t e.1) (ret (.bl (isS t e.1 y)))
def isTW (t : ETab) (ys : List Str) (e : Exc) : W D := onB (kn t e.1) (ret (.bl (ys.any (isS t e.1))))
def fldW (ys : List Str) (f : Str) (e : Exc) : W D := onB (ys.contains e.1) (match e.2.lookup f with | some d => ret d | none => stuck)
/-- isinstance(x, C), x an error that was kept -/
theorem e_isX {x y : Str} {cv : Value} {t : ETab} {cs : List (Str × Value)} {p px py pos : Pos} (T : ErrI X.K X.mg t cs) (hG : G.mg = X.mg) (i : Nat) (hc : Names X y cv) (hcl : isCl cv = true) (hin : (y, cv) ∈ cs) (hm : X.mg "isinstance" = none)
    (hN : X.N[i]? = some x := by rfl) (hv : Vis X.env.scope x := by first | exact Or.inl rfl | exact Or.inr (Or.inl rfl) | exact Or.inr (Or.inr rfl)) (hd : (x == ("__debug__" : Str)) = false := by decide)
    (hcd : (x == ("__classdict__" : Str)) = false := by decide) (hg : Gl X "isinstance" := by rfl) (he : starEach [.Name x px, .Name y py] X.env = (false, eval (.Name x px) X.env) :: starEach [.Name y py] X.env := by rfl)
    (he2 : starEach [.Name y py] X.env = (false, eval (.Name y py) X.env) :: starEach [] X.env := by rfl) (hpl : (backTo pos (starEach [.Name y py] X.env)).any (·.1) = false := by rfl) :
    E G X Wx (.Call (.Name "isinstance" p) [.Name x px, .Name y py] [] pos) (fun ρ => excAt ρ i (isW t y)) :=
  weakE (pe_callB call_isX hg hm PyProof.Rows.boot_isinstance (two_a (pe_var hN hv hd hcd) (pe_cls hc hcl) he he2) (by decide) (by decide) he hpl) fun σ H Q ⟨c, ρ, n, P, PX, I, q, hg, hx⟩ => by
    obtain ⟨e, e1, q⟩ := excAt_inv (show excAt ρ i _ n P PX from q)
    obtain ⟨hk, q⟩ := onB_inv (show onB _ _ n P PX from q)
    obtain ⟨a, D, dd, es, xa, hm', _⟩ := I.exc e1
    rw [hG] at hm'
    exact ⟨.ref a, slot_some es, a, D, cV cv, cv, isS t e.1 y, rfl, xa, T.ex e.1 D hm' hk, cV_cls hcl, (T.is e.1 D hm' hk _ hin).1, hg (.bl (isS t e.1 y)) n _ c.S H q .refl I rfl⟩
/-- isinstance(x, (C, D, ..)) -/
theorem e_isXT {x : Str} {xs : List Nm} {t : ETab} {cs : List (Str × Value)} {p px pt pos : Pos} {k0 : Nat} (T : ErrI X.K X.mg t cs) (hG : G.mg = X.mg) (i : Nat) (hc : ∀ p ∈ xs, Names X p.1 p.2.2 ∧ isCl p.2.2 = true) (hin : ∀ p ∈ xs.map (fun p => (p.1, p.2.2)), p ∈ cs) (hz : xs.length ≤ sizeLine) (hm : X.mg "isinstance" = none)
    (hN : X.N[i]? = some x := by rfl) (hv : Vis X.env.scope x := by first | exact Or.inl rfl | exact Or.inr (Or.inl rfl) | exact Or.inr (Or.inr rfl)) (hd : (x == ("__debug__" : Str)) = false := by decide)
    (hcd : (x == ("__classdict__" : Str)) = false := by decide) (hg : Gl X "isinstance" := by rfl) (he : starEach [.Name x px, .Tuple (namesE xs) k0 pt] X.env = (false, eval (.Name x px) X.env) :: starEach [.Tuple (namesE xs) k0 pt] X.env := by rfl)
    (he2 : starEach [.Tuple (namesE xs) k0 pt] X.env = (false, eval (.Tuple (namesE xs) k0 pt) X.env) :: starEach [] X.env := by rfl) (hpl : (backTo pos (starEach [.Tuple (namesE xs) k0 pt] X.env)).any (·.1) = false := by rfl) :
    E G X Wx (.Call (.Name "isinstance" p) [.Name x px, .Tuple (namesE xs) k0 pt] [] pos) (fun ρ => excAt ρ i (isTW t (namesS xs))) :=
  weakE (pe_callB call_isXT hg hm PyProof.Rows.boot_isinstance (two_a (pe_var hN hv hd hcd) (pe_tup (pa_cls xs hc)) he he2) (by decide) (by decide) he hpl) fun σ H Q ⟨c, ρ, n, P, PX, I, q, hg, hx⟩ => by
    obtain ⟨e, e1, q⟩ := excAt_inv (show excAt ρ i _ n P PX from q)
    obtain ⟨hk, q⟩ := onB_inv (show onB _ _ n P PX from q)
    obtain ⟨a, D, dd, es, xa, hm', ha, rx⟩ := I.exc e1
    rw [hG] at hm'
    refine ⟨.ref a, slot_some es, by rw [List.length_map]; exact hz, fun tp htp => ?_⟩
    obtain ⟨I2, g2⟩ := I.laid (o := .tup (xs.map fun p => cV p.2.2)) htp
    obtain ⟨a2, D2, dd2, es2, xa2, hm2, _⟩ := I2.exc e1
    rw [es] at es2
    cases es2
    rw [hG, hm'] at hm2
    cases hm2
    have hka := kitAny_of (f := isS t e.1) (xs.map fun p => (p.1, p.2.2)) fun p hp => (T.is e.1 D hm' hk p (hin p hp)).1
    rw [List.map_map, List.map_map] at hka
    exact ⟨a, D, tp, _, xs.map fun p => p.2.2, (namesS xs).any (isS t e.1), rfl, xa2, T.ex e.1 D hm' hk, upd_same, clsV_all xs fun p hp => (hc p hp).2, hka, hg (.bl _) n _ _ _ q g2 I2 rfl⟩
/-- what is asked of a field's name -/
def FldOk (K : PySem.W.Frag) (mg : Str → Option Value) (ys : List Str) (f : Str) : Prop := ∀ y A, mg y = some (.ref A) → y ∈ ys → XfC K A ∧ PySem.W.findIn K (.ref A) f = some none
/-- x.f, x an error that was kept, of one of the classes ys -/
theorem e_fldX {x f : Str} {ys : List Str} {px pos : Pos} (T : FldOk X.K X.mg ys f) (hG : G.mg = X.mg) (i : Nat)
    (hN : X.N[i]? = some x := by rfl) (hv : Vis X.env.scope x := by first | exact Or.inl rfl | exact Or.inr (Or.inl rfl) | exact Or.inr (Or.inr rfl)) (hd : (x == ("__debug__" : Str)) = false := by decide)
    (hcd : (x == ("__classdict__" : Str)) = false := by decide) (hb : attributeBase (.Name x px) f X.env (eval (.Name x px) X.env) = eval (.Name x px) X.env := by rfl) :
    E G X Wx (.Attribute (.Name x px) f pos) (fun ρ => excAt ρ i (fldW ys f)) := by
  refine ⟨fun pins s σ H Q J ⟨c, ρ, n, P, PX, I, q, hg, hx⟩ => ?_⟩
  obtain ⟨e, e1, q⟩ := excAt_inv (show excAt ρ i _ n P PX from q)
  obtain ⟨hk, q⟩ := onB_inv (show onB _ _ n P PX from q)
  obtain ⟨a, Da, dd, es, xa, hm', ha, A, r1, r2, r3⟩ := I.exc e1
  rw [hG] at hm'
  obtain ⟨Tx, hno⟩ := T e.1 Da hm' (List.contains_iff_mem.mp hk)
  refine attr_of hb (thn ((pe_var (pos := px) (i := i) hN hv hd hcd).run pins s σ H (fun v H1 => v = .ref a ∧ H1 = H) J ⟨.ref a, slot_some es, rfl, rfl⟩) fun u s1 hh => ?_)
  obtain ⟨v, H1, J1, rx, rfl, rfl⟩ := hh
  obtain rfl : u = Value.ref a := rx
  cases el : e.2.lookup f with
  | none => rw [el] at q; exact q.elim
  | some dv =>
    rw [el] at q
    rcases r3 with ⟨z, _⟩ | ⟨d, fv, rfl, hS, hd2, pr⟩
    · rw [z] at el; cases el
    · have key : ∀ {xs : List (Str × D)} {fv : List (Str × V)}, Paired (fun (p : Str × D) (q : Str × V) => p.1 = q.1 ∧ Rep X.K c.S H1 p.2 q.2) xs fv → xs.lookup f = some dv → ∃ w, fv.lookup f = some w ∧ Rep X.K c.S H1 dv w := by
        intro xs fv pr
        induction pr with
        | nil => intro z; cases z
        | @cons p q xs fv h t ih =>
          intro z
          obtain ⟨p1, p2⟩ := p
          obtain ⟨q1, q2⟩ := q
          obtain ⟨h1, h2⟩ := h
          dsimp only at h1 h2
          subst h1
          rw [List.lookup_cons] at z ⊢
          cases eb : f == p1 with
          | true =>
            rw [eb] at z
            cases z
            exact ⟨q2, rfl, h2⟩
          | false =>
            rw [eb] at z
            exact ih z
      obtain ⟨w, lw, rw'⟩ := key pr el
      have q2 : ObjOk X.prog X.w H1 s1.heap a (.ext fun h => ∃ (oe : Obj) (vs : Array Value), h.get? a = some oe ∧ Zc (.ref Da) (some d) oe ∧ oe.data = .fields vs) := J1.hok a _ ha
      obtain ⟨⟨oe, vs, ho, hz, hvs⟩, _⟩ := q2
      have hxd : ObjOk X.prog X.w H1 s1.heap d (.xd fv) := J1.hok d _ hd2
      obtain ⟨mA, hns, hr⟩ := hxd
      obtain ⟨od, ho2, hl⟩ := lookIn_ns hns
      obtain ⟨u, hu, ru⟩ := RelO.some_of (v := w) (o := mA f) (by rw [← lw]; exact hr f)
      have Ji : PySem.W.InstAt s1.heap a oe Da (some od) := ⟨ho, hz.1, by unfold PySem.W.notCls; rw [hvs] <;> rfl, by rw [hz.2]; exact ho2⟩
      exact HandSPX.exc_get J1.kIn Ji Tx.ga Tx.gg Tx.exC (PySem.W.findObj_own Tx.hdC hno rfl (by rw [hl, hu])) (handed_of ru) ⟨w, H1, J1.tok _, ru, hg dv n w c.S H1 q .refl I rw'⟩
end
end PL

/-! The layer: a lambda handed to a def. -/
namespace PL
open PySem PySem.Spec PyProof.Rows L2 LamX
section
variable {G : PenK} {K : PySem.W.Frag} {c : C} {σ : L2.St} {ρ : Env} {H : Hp} {n : Nt}
/-- a code object is made, its table is longer -/
theorem SI.code {P c' : Addr} {q : Str} {ps : Array Value} {pos : Pos} (J : SI G K c σ H ρ n) (hq : (P, q) ∈ G.tab) (hu : ∀ p ∈ G.tab, p.1 = P → p.2 = q) (hP : H P = some (.tbl ps)) (hT : TriplesOk ps.toList) (ho : ∀ (pos : Pos) (cv : Value), codeAmong pos ps.toList = some cv → ∃ c0, cv = .ref c0 ∧ c.S c0 ∧ H c0 = some (CodeO c0 q)) (nC : H c' = none) :
    SI G K (c.to fun a => c.S a ∨ a = c') σ (upd (upd H P (.tbl (ps ++ #[rawInt pos.line, rawInt pos.col, .ref c']))) c' (CodeO c' q)) ρ n ∧ Grow c.S (fun a => c.S a ∨ a = c') H (upd (upd H P (.tbl (ps ++ #[rawInt pos.line, rawInt pos.col, .ref c']))) c' (CodeO c' q)) := by
  have nPc : P ≠ c' := ne_of_none hP nC
  have at_ : ∀ b, b ≠ P → b ≠ c' → upd (upd H P (.tbl (ps ++ #[rawInt pos.line, rawInt pos.col, .ref c']))) c' (CodeO c' q) b = H b := fun b h1 h2 => by rw [upd_ne h2, upd_ne h1]
  have atP : upd (upd H P (.tbl (ps ++ #[rawInt pos.line, rawInt pos.col, .ref c']))) c' (CodeO c' q) P = some (.tbl (ps ++ #[rawInt pos.line, rawInt pos.col, .ref c'])) := by rw [upd_ne nPc, upd_same]
  have tN := J.tabN hq
  have ne : ∀ b, H b ≠ none → b ≠ c' := fun b h z => h (z ▸ nC)
  have eqS : ∀ b, c.S b → upd (upd H P (.tbl (ps ++ #[rawInt pos.line, rawInt pos.col, .ref c']))) c' (CodeO c' q) b = H b := fun b h => at_ b (fun z => tN.1 (z ▸ h)) (ne b (J.dom b h))
  have g : Grow c.S (fun a => c.S a ∨ a = c') H (upd (upd H P (.tbl (ps ++ #[rawInt pos.line, rawInt pos.col, .ref c']))) c' (CodeO c' q)) := ⟨fun _ h => .inl h, eqS⟩
  have ownN : ∀ a, ownS ρ σ a → a ≠ P := fun a ⟨i, sv, e, h, es⟩ z => tN.2.1 (z ▸ (J.own i sv a e h es).2.1)
  have eL : (ps ++ #[rawInt pos.line, rawInt pos.col, .ref c']).toList = ps.toList ++ [rawInt pos.line, rawInt pos.col, .ref c'] := by simp
  refine ⟨⟨J.len, fun i sv e => (J.slots i sv e).grow g fun a ea h => at_ a (ownN a ⟨i, sv, e, h, ea⟩) (ne a (J.own_there ⟨i, sv, e, h, ea⟩)), fun i sv a e h es => ⟨fun z => z.elim (J.own i sv a e h es).1 fun z => ne a (J.own_there ⟨i, sv, e, h, es⟩) z, (J.own i sv a e h es).2⟩, J.apart, fun a h => ?_, fun a o e hn => ?_, fun p e => ?_,
    fun a h => ⟨fun z => z.elim (J.no a h).1 fun z => (J.no a h).2 (z ▸ J.freeOld nC), (J.no a h).2⟩, fun p hp => ⟨(J.tab p hp).1, ?_⟩, fun b nd e => ⟨(J.mu b nd e).1.grow g (at_ b (fun z => (J.mu b nd e).2.2.2 (.inr ⟨_, hq, z⟩)) (ne b (J.mu b nd e).1.there)), fun z => Or.elim z (J.mu b nd e).2.1 (ne b (J.mu b nd e).1.there), (J.mu b nd e).2.2⟩, J.mu0, J.mz⟩, g⟩
  · rcases h with h | h
    · rw [eqS a h]; exact J.dom a h
    · rw [h, upd_same]; exact fun z => nomatch z
  · have q1 := J.fr a o e hn
    rw [at_ a (fun z => hn (.inl (.inr ⟨_, hq, z⟩))) (ne a (by rw [q1]; exact fun z => nomatch z))]
    exact q1
  · obtain ⟨h1, h2, h3, h4, h5⟩ := J.pen p e
    obtain ⟨⟨xs, e1⟩, ys, e2⟩ := G.isL h1
    have nl : ∀ b xs, H b = some (.lst xs) → b ≠ P := fun b xs h z => by rw [z, hP] at h; cases h
    exact ⟨G.dep h1 (at_ _ (nl _ _ e1) (ne_of_none e1 nC)) (at_ _ (nl _ _ e2) (ne_of_none e2 nC)), fun z => z.elim h2 (ne_of_none e1 nC), fun z => z.elim h3 (ne_of_none e2 nC), h4, h5⟩
  · rcases Classical.em (p.1 = P) with hb | hb
    · rw [hu p hp hb, hb]
      refine ⟨_, atP, by rw [eL]; exact PySem.TriplesOk_snoc _ _ _ _ hT, fun p' cv hcv => ?_⟩
      rw [eL] at hcv
      rcases among_app _ hT hcv with z | z
      · obtain ⟨c0, e1, e2, e3⟩ := ho p' cv z
        exact ⟨c0, e1, .inl e2, (eqS c0 e2).trans e3⟩
      · exact ⟨c', z, .inr rfl, upd_same⟩
    · exact (J.tab p hp).2.grow g (at_ _ hb (ne _ (J.tabN hp).2.2))
end
section
variable {G : PenK} {X : Cx} {pins : List (Addr × Obj)} {σ : L2.St} {H : Hp} {s : Shared} {c : C} {ρ : Env} {n : Nt}
/-- the lambda is made -/
theorem lam_make3 {cc P : Addr} {params : Arguments} {body : Expr} {scope : Scope} {pos : Pos} {E : Value → Shared → Prop} {Q : Value → Shared → Prop} (I : Inv X pins σ H s) (J : SI G X.K c σ H ρ n) (TB : TabB X.base X.mg cc P) (hcode : X.env.code = .ref cc)
    (hm : (P, X.env.qual ++ "<lambda>") ∈ G.tab) (hu : ∀ p ∈ G.tab, p.1 = P → p.2 = X.env.qual ++ "<lambda>") (hdef : defaultsOf params X.env = ([], [])) (hfree : ∀ y ∈ scope.names, y.2 = .free → ∃ c, X.env.cells.lookup y.1 = some c)
    (h : ∀ (f c' : Addr) (pm ctv : Value) (H1 : Hp) (s' : Shared), Inv X pins σ H1 s' → SI G X.K (c.to fun a => c.S a ∨ a = c') σ H1 ρ n → Grow c.S (fun a => c.S a ∨ a = c') H H1 →
      s'.heap.get? f = some (PySem.W.kla_obj "<lambda>" (X.env.qual ++ "<lambda>") params body scope (cloFrom X.env.cells scope.names []) pm c' ctv) → H1 f = none → f ∉ frs X.stack → H1 c' = some (CodeO c' (X.env.qual ++ "<lambda>")) → Q (.ref f) s') :
    wpAny (model X.prog X.w) X.A (eval (.Lambda params body scope pos) X.env) Q E s := by
  obtain ⟨ps, hP, ht, ha⟩ := (J.tab _ hm).2
  refine PySem.W.kla_eval hdef ?_
  have bP : s.heap.BuiltinsAt X.mg P := TB.bm.keeps I.bk
  have hP' : s.heap.get? P = some { cls := .none, data := .fields ps } := I.hok P _ hP
  have nofr : ∀ f, s.heap.objs.size ≤ f → f ∉ frs X.stack := fun f hf z => by
    rcases List.mem_cons.mp (I.stkSub _ z) with e | e
    · exact Nat.lt_irrefl _ (Nat.lt_of_lt_of_le (e ▸ I.lt) hf)
    · exact I.nofs hf e
  cases hc : codeAmong pos ps.toList with
  | none =>
    refine PySem.W.kla_makeFunction (mg := X.mg) (c := cc) (P := P) (ps := ps) (closure_ok hfree) I.ok.glob (I.mod.glob.keeps I.bk) hcode (TB.code.keeps I.bk) hP' ht hc TB.gP bP fun c' ctv h' tk hx hge hlt hrec htb => ?_
    obtain ⟨c2, oc, vs, t, e2, hoc, hd, hv⟩ := hrec
    cases e2
    have hsz : s.heap.objs.size ≤ h'.objs.size := Nat.le_trans hge (Nat.le_of_lt hlt)
    have nC : H c' = none := I.hok.fresh hge
    have I1 := inv_table (t' := tk) (more := #[rawInt pos.line, rawInt pos.col, .ref c']) (h' := h'.push (PySem.W.kla_obj "<lambda>" (X.env.qual ++ "<lambda>") params body scope (cloFrom X.env.cells scope.names []) ((X.mg "__name__").getD .none) c' ctv)) I hP
      (fun b o hb e => Heap.get?_push_of_some _ (hx b o hb e)) (Heap.get?_push_of_some _ htb) hge ⟨oc, vs, t, Heap.get?_push_of_some _ hoc, hd, hv⟩
    obtain ⟨J1, g1⟩ := J.code (pos := pos) hm hu hP ht ha nC
    refine h h'.objs.size c' ((X.mg "__name__").getD .none) ctv _ _ I1 J1 g1 (Heap.get?_push_size _ rfl) ?_ (nofr _ hsz) upd_same
    rw [upd_ne (Nat.ne_of_gt hlt), upd_ne (Nat.ne_of_gt (Nat.lt_of_lt_of_le (Heap.lt_size hP') hsz))]
    exact I.hok.fresh hsz
  | some cv =>
    obtain ⟨c', e, hS, hco⟩ := ha pos cv hc
    subst e
    refine PySem.W.kla_makeFunctionHit (mg := X.mg) (c := cc) (P := P) (ps := ps) (closure_ok hfree) I.ok.glob (I.mod.glob.keeps I.bk) hcode (TB.code.keeps I.bk) hP' ht hc bP fun ctv h' tk hx hsz => ?_
    have I1 : Inv X pins σ H { s with heap := h'.push (PySem.W.kla_obj "<lambda>" (X.env.qual ++ "<lambda>") params body scope (cloFrom X.env.cells scope.names []) ((X.mg "__name__").getD .none) c' ctv), toks := tk } := I.kept fun b o e => Heap.get?_push_of_some _ (hx b o e)
    have eS : (fun a => c.S a ∨ a = c') = c.S := by
      funext a
      exact propext ⟨fun z => z.elim id fun z => z ▸ hS, .inl⟩
    refine h h'.objs.size c' ((X.mg "__name__").getD .none) ctv H _ I1 ?_ ?_ (Heap.get?_push_size _ rfl) (I.hok.fresh hsz) (nofr _ hsz) hco
    · rw [eS]; exact J
    · rw [eS]; exact .refl
end
end PL

/-! The layer: a lambda handed to a def, called there; the call of such a def. -/
namespace PL
open PySem PySem.Spec PyProof.Rows L2 LamX
def emb1 : Option D → SV
  | some x => .d x
  | none => .un
def ds1 : SV → Option D
  | .d x => some x
  | _ => none
abbrev embs (ds : List (Option D)) : Env := ds.map emb1
abbrev dsOf (ρ : Env) : List (Option D) := ρ.map ds1
def lamIs {α : Type} (ρ : Env) (i : Nat) (f c : Addr) (q : Str) (σ : L2.St) (k : List (Option D) → W α) : W α := match svAt ρ i with
  | .lam f' c' q' σ' ds => grd (f' = f ∧ c' = c ∧ q' = q ∧ σ' = σ) (k ds)
  | _ => stuck
theorem lamIs_inv {α : Type} {ρ : Env} {i : Nat} {n : Nt} {f c : Addr} {q : Str} {σ : L2.St} {k : List (Option D) → W α} {P : α → Nt → Prop} {PX : Exc → Nt → Prop} (h : lamIs ρ i f c q σ k n P PX) : ∃ ds, ρ[i]? = some (.lam f c q σ ds) ∧ k ds n P PX := by
  unfold lamIs svAt at h
  cases e : ρ[i]? with
  | none => rw [e] at h; exact h.elim
  | some sv =>
    rw [e] at h
    cases sv with
    | lam f' c' q' σ' ds =>
      obtain ⟨⟨rfl, rfl, rfl, rfl⟩, h⟩ := h
      exact ⟨ds, rfl, h⟩
    | _ => exact h.elim
theorem lamIs_eq {α : Type} {f c : Addr} {q : Str} {σ : L2.St} {ds : List (Option D)} {k : List (Option D) → W α} (l : Env) : lamIs (.lam f c q σ ds :: l) 0 f c q σ k = k ds := by
  funext n P PX
  exact propext ⟨fun h => h.2, fun h => ⟨⟨rfl, rfl, rfl, rfl⟩, h⟩⟩
section
variable {G : PenK} {X : Cx} {pins : List (Addr × Obj)} {σ : L2.St} {H : Hp} {s : Shared}
/-- the state of the lambda's names where it is called -/
theorem SI.lam {K : PySem.W.Frag} {c : C} {τ : L2.St} {ρ : Env} {n : Nt} {b : Addr} {q : Str} {ds : List (Option D)} (J : SI G K c τ H ρ n) (h : LamOk K c.S H b q σ ds) : SI G K ⟨c.S, H, c.pen, fun a => H a ≠ none ∧ ¬ c.S a, fun a => n.μ a ≠ none⟩ σ H (embs ds) n := by
  obtain ⟨_, _, hl, hd⟩ := h
  have key : ∀ (i : Nat) (sv : SV), (embs ds)[i]? = some sv → sv = .un ∨ ∃ x, sv = .d x ∧ ds[i]? = some (some x) := fun i sv e => by
    rw [List.getElem?_map] at e
    cases z : ds[i]? with
    | none => rw [z] at e; cases e
    | some o =>
      rw [z] at e
      cases o with
      | none => cases e; exact .inl rfl
      | some x => cases e; exact .inr ⟨x, rfl, rfl⟩
  have no : ∀ (i : Nat) (sv : SV), (embs ds)[i]? = some sv → sv.isOwn = true → False := fun i sv e ho => by
    rcases key i sv e with rfl | ⟨x, rfl, _⟩ <;> cases ho
  refine ⟨by rw [List.length_map, hl], fun i sv e => ?_, fun i sv a e ho => (no i sv e ho).elim, fun i j sv sv' a _ e _ ho => (no i sv e ho).elim, J.dom, fun a o e _ => e, fun p e => ?_, fun a h => ⟨h.2, h.1⟩, fun p hp => ⟨⟨(J.tabN hp).2.2, (J.tabN hp).1⟩, (J.tab p hp).2⟩, fun a nd e => ⟨(J.mu a nd e).1, (J.mu a nd e).2.1, .inl (by show n.μ a ≠ none; rw [e]; exact fun z => nomatch z), (J.mu a nd e).2.2.2⟩, fun a h => ⟨h, (J.muS h).2⟩, J.mz⟩
  · rcases key i sv e with rfl | ⟨x, rfl, e2⟩
    · trivial
    · exact hd i x e2
  · obtain ⟨h1, h2, h3, _⟩ := J.pen p e
    obtain ⟨k1, k2⟩ := G.there h1
    exact ⟨h1, h2, h3, k1, k2⟩
/-- x(), in the def that got the lambda -/
theorem e_act {Eg : XK} {Ng : List Str} {qg : Str} {sg : Scope} {g f c' : Addr} {cdg pm ctv : Value} {params : Arguments} {body : Expr} {scope : Scope} {k i : Nat} {a : Str} {pn : List (Addr × Obj)} {xe : Value → Shared → Prop} {W : WX} {gb : Env → PL.W D} {p1 p2 : Pos}
    (I : Inv X pins σ H s) (L : LamS X.env.scope scope) (hf : s.heap.get? f = some (PySem.W.kla_obj "<lambda>" (X.env.qual ++ "<lambda>") params body scope (cloFrom X.env.cells scope.names []) pm c' ctv)) (hfn : H f = none) (hfr : f ∉ frs X.stack)
    (hbind : bindArgs (PySem.W.kla_fn "<lambda>" (X.env.qual ++ "<lambda>") params body scope (cloFrom X.env.cells scope.names []) pm (.ref c') ctv) ⟨[], []⟩ = pure [])
    (tk : Takes ((cxOf (L2.CX X.prog X.w) X.prog X.w X.K X.mg X.base Ng qg sg g cdg X.A X.stack s H Eg).tr pn xe) W) (hr : Room (k + 1) (X.A.deeper (envOfC qg sg s.heap.objs.size g cdg)))
    (hbody : ∀ (A : Around) (outer : List PySem.Env) (s : Shared) (H : Hp) (E : XK), A.guards = X.A.guards → Room k (A.deeper (lamEnv X scope s.heap.objs.size f c')) → PL.E G (lamCx X A outer s H E scope f c') (fun cls d _ H => E cls d H) body gb)
    (hN : Ng[i]? = some a) (hv : Vis sg a) (hd : (a == ("__debug__" : Str)) = false) (hcd : (a == ("__classdict__" : Str)) = false) :
    PL.E G ((cxOf (L2.CX X.prog X.w) X.prog X.w X.K X.mg X.base Ng qg sg g cdg X.A X.stack s H Eg).tr pn xe) W (.Call (.Name a p1) [] [] p2) (fun ρ => lamIs ρ i f c' (X.env.qual ++ "<lambda>") σ fun ds => gb (embs ds)) := by
  refine ⟨fun pinsZ sZ σZ HZ Q IZ ⟨c1, ρ1, n1, P, PX, J, q, hg, hx⟩ => ?_⟩
  obtain ⟨ds, e1, q⟩ := lamIs_inv (show lamIs ρ1 i f c' (X.env.qual ++ "<lambda>") σ (fun ds => gb (embs ds)) n1 P PX from q)
  obtain ⟨es, hL⟩ := J.slots i _ e1
  refine wpAny_Call_Name_kw (thn ((pe_var (pos := p1) (i := i) hN hv hd hcd).run pinsZ sZ σZ HZ (fun v H1 => v = .ref f ∧ H1 = HZ) IZ ⟨.ref f, slot_some es, rfl, rfl⟩) fun u s1 ⟨v, H1, I1, r1, q1⟩ => ?_)
  obtain ⟨ev, eH⟩ := q1
  subst ev
  rw [eH] at I1
  obtain rfl : u = Value.ref f := r1
  have of1 : s1.heap.get? f = some (PySem.W.kla_obj "<lambda>" (X.env.qual ++ "<lambda>") params body scope (cloFrom X.env.cells scope.names []) pm c' ctv) := I1.base.keep f _ hf hfn hfr (fun z => nomatch (show f ∈ ([] : List Addr) from z))
  refine PySem.W.callWith_F0 ⟨_, _, _, _, of1⟩ ?_
  have un : Un (frs X.stack) [] H HZ s.heap s1.heap := I1.base
  obtain ⟨⟨oc, vs, t, hoc, hdc, hvc⟩, _, _⟩ := I1.hok c' _ hL.2.1
  have rc : codeAny (model X.prog X.w) (X.A.deeper (envOfC qg sg s.heap.objs.size g cdg)) (.call (.ref f) ⟨[], []⟩) (CR (L2.CX X.prog X.w) (envOfC qg sg s.heap.objs.size g cdg :: X.stack) X.prog X.w HZ s1 Q (WE W σZ)) s1 := by
    refine PySem.W.kla_callFunE hr.depth of1 rfl L.co L.gen rfl ⟨c', oc, vs, t, rfl, hoc, hdc, hvc⟩ ?_
    rw [hbind]
    refine wpAny_pure (wpAny_newFunctionEnv (fun y hy => (L.own y hy).2) (fun y hy => absurd hy (by simp)) (fun h₁ hns hsb => ⟨I1.nolimit.fresh _ hsb, ?_⟩) L.kind)
    show codeAny _ _ (.expr body (lamEnv X scope s1.heap.objs.size f c')) _ _
    have kp : ∀ b o, s1.heap.get? b = some o → h₁.get? b = some o := fun b o e => hsb.extBut b o (Nat.ne_of_lt (Heap.lt_size e)) (Heap.get?_push_of_some _ e)
    have JJ : Inv (lamCx X (X.A.deeper (envOfC qg sg s.heap.objs.size g cdg)) (envOfC qg sg s.heap.objs.size g cdg :: X.stack) s1 HZ (WE W σZ) scope f c') [] σ HZ { s1 with heap := h₁, toks := s1.toks + ([] : List (Str × Value)).length } :=
      lam_start2 I L I1.env0 hr.hd un hns kp
    refine PySem.W.kla_codeExpr (wpAny_mono ((hbody (X.A.deeper (envOfC qg sg s.heap.objs.size g cdg)) (envOfC qg sg s.heap.objs.size g cdg :: X.stack) s1 HZ (WE W σZ) rfl (hr.deeper _)).run [] _ _ HZ Q JJ ⟨_, embs ds, n1, P, PX, J.lam hL, q, fun d k v S' H' p gr I' r => hg d k v S' H' p gr (J.called (SI.after gr I') (.inl rfl)) r, fun x k S' H' cls dd p gr I' rx => hx x k S' H' cls dd p gr (J.called (SI.after gr I') (.inl rfl)) rx⟩) (fun v s' hq => ?_) fun e s' hq => hq)
    obtain ⟨w', H', J', rv, q⟩ := hq
    exact ⟨w', H', J'.os, J'.bare, J'.base, J'.hok, rv, q⟩
  refine wpAny_call (codeAny_mono rc fun r s' hq => ?_)
  cases r with
  | error e => exact passAt tk σZ pinsZ HZ s1 e s' I1 hq
  | ok fl =>
    cases fl with
    | ret u => exact I1.after hq
    | next => exact False.elim hq
    | brk => exact False.elim hq
    | cont => exact False.elim hq
end
/-- the body of a def that gets a lambda and calls it: dh makes its answer of the lambda's -/
def WalkL (G : PenK) (P : Program) (w : World) (K : PySem.W.Frag) (mg : Str → Option Value) (base : Heap) (kk : Nat) (x a : Str) (g : Addr) (st : Stmt) (Ng : List Str) (dh : W D → W D) : Prop :=
  ∀ (f c' : Addr) (q : Str) (σ : L2.St) (ds : List (Option D)) (call : Env → W D) (m : W D) (cdv : Value) (A : Around) (outer : List PySem.Env) (s : Shared) (H : Hp) (E : XK) (Wx : WX), A.guards = some [] → Room kk (A.deeper (envOfC x (defScope st) s.heap.objs.size g cdv)) → Takes (cxOf (L2.CX P w) P w K mg base Ng x (defScope st) g cdv A outer s H E) Wx →
    PassesOwn (model P w) (A.deeper (envOfC x (defScope st) s.heap.objs.size g cdv)) (envOfC x (defScope st) s.heap.objs.size g cdv) (cxOf (L2.CX P w) P w K mg base Ng x (defScope st) g cdv A outer s H E).xe → (∀ l, call (SV.lam f c' q σ ds :: l) = m) →
    (∀ (W : WX) (pn : List (Addr × Obj)) (xe : Value → Shared → Prop) (p1 p2 : Pos), Takes ((cxOf (L2.CX P w) P w K mg base Ng x (defScope st) g cdv A outer s H E).tr pn xe) W → PL.E G ((cxOf (L2.CX P w) P w K mg base Ng x (defScope st) g cdv A outer s H E).tr pn xe) W (.Call (.Name a p1) [] [] p2) call) →
    SG G (cxOf (L2.CX P w) P w K mg base Ng x (defScope st) g cdv A outer s H E) Wx (defBody st) (SV.lam f c' q σ ds :: List.replicate (Ng.length - 1) .un) EnT (dh m)
section
variable {G : PenK} {X : Cx} {Wx : WX}
/-- x(lambda: body) -/
theorem e_lamcall {x a : Str} {g cc P : Addr} {k : Nat} {fd : FuncData} {st : Stmt} {Ng : List Str} {dh : W D → W D} {params : Arguments} {body : Expr} {scope : Scope} {gb : Env → W D} {p lpos pos : Pos}
    (F : Fun X.K x x st g fd) (hbd : Binds X.K fd [a] []) (Sg : FnScope Ng [a] (defScope st)) (hNg : Ng[0]? = some a) (hva : Vis (defScope st) a) (walk : WalkL G X.prog X.w X.K X.mg X.base (k + 1) x a g st Ng dh)
    (hm : X.mg x = some (.ref g)) (hgd : X.A.guards = some []) (tk : Takes X Wx) (TB : TabB X.base X.mg cc P) (hcode : X.env.code = .ref cc) (hmT : (P, X.env.qual ++ "<lambda>") ∈ G.tab) (hu : ∀ p ∈ G.tab, p.1 = P → p.2 = X.env.qual ++ "<lambda>")
    (hr : Room (k + 2) X.A) (L : LamS X.env.scope scope) (hdef : defaultsOf params X.env = ([], [])) (hbind : ∀ (q : Str) (cl : List (Str × Addr)) (pm cv ctv : Value), bindArgs (PySem.W.kla_fn "<lambda>" q params body scope cl pm cv ctv) ⟨[], []⟩ = pure [])
    (hbody : ∀ (A : Around) (outer : List PySem.Env) (s : Shared) (H : Hp) (E : XK) (f c' : Addr), A.guards = some [] → Room k (A.deeper (lamEnv X scope s.heap.objs.size f c')) → PL.E G (lamCx X A outer s H E scope f c') (fun cls d _ H => E cls d H) body gb)
    (hg : Gl X x := by rfl) (hdb : (x == ("__debug__" : Str)) = false := by decide) (hd : (a == ("__debug__" : Str)) = false := by decide) (hcd : (a == ("__classdict__" : Str)) = false := by decide) :
    PL.E G X Wx (.Call (.Name x p) [.Lambda params body scope lpos] [] pos) (fun ρ => dh (gb (embs (dsOf ρ)))) := by
  refine ⟨fun pins s σ H Q I ⟨c, ρ, n, P0, PX, J, q, hgl, hx⟩ => ?_⟩
  obtain ⟨oc, od, kV, doc, pm, an, cdv, ct, osl, rfl, lk, hcg⟩ := F.ex
  refine wpAny_Call_Name_kw (ld_glob I hg hm ?_ hdb)
  refine PySem.W.callWith_K (h₀ := X.base) I.ok.mod.kin F.kp ?_ (by rfl) (by rfl)
  show wpAny _ _ (spliced ((false, eval (.Lambda params body scope lpos) X.env) :: backTo pos (starEach [] X.env))) _ _ s
  refine Calls.spliced_cons (lam_make3 I J TB hcode hmT hu hdef (L.has I.ok) fun f c' pm' ctv H1 s' I1 J1 g1 hf hfn hfr hco => ?_)
  refine Calls.spliced_nil ⟨I1.kIn, ?_⟩
  have hL : LamOk X.K (fun a => c.S a ∨ a = c') H1 c' (X.env.qual ++ "<lambda>") σ (dsOf ρ) := ⟨.inr rfl, hco, by rw [List.length_map, J1.len], fun i x e => by
    rw [List.getElem?_map] at e
    cases z : ρ[i]? with
    | none => rw [z] at e; cases e
    | some sv =>
      rw [z] at e
      cases sv with
      | d y => cases e; exact J1.slots i _ z
      | _ => cases e⟩
  have rc : codeAny (model X.prog X.w) X.A (.call (.ref g) ⟨[.ref f], []⟩) (CR (L2.CX X.prog X.w) X.stack X.prog X.w H1 s' Q (WE Wx σ)) s' := by
    refine run_ofS (N := Ng) (ps := [a]) (us := [.ref f]) (vs := [.ref f]) lk hcg Sg hr I1.env0 (hbd s' [.ref f] I1.kIn rfl) (.cons rfl .nil) rfl fun hr' => ?_
    refine ⟨_, walk f c' (X.env.qual ++ "<lambda>") σ (dsOf ρ) (fun ρh => lamIs ρh 0 f c' (X.env.qual ++ "<lambda>") σ fun ds => gb (embs ds)) _ cdv X.A X.stack s' H1 (WE Wx σ) (fun cls d _ H => WE Wx σ cls d H) hgd hr' (L2.takes_of rfl rfl rfl rfl) (passes_of rfl) (fun l => lamIs_eq l)
      (fun W pn xe p1 p2 tk' => e_act I1 L hf hfn hfr (hbind _ _ _ _ _) tk' hr' (fun A outer s H E hgA hr2 => hbody A outer s H E f c' (hgA.trans hgd) hr2) hNg hva hd hcd), ?_⟩
    have hN1 : [SV.lam f c' (X.env.qual ++ "<lambda>") σ (dsOf ρ)].length ≤ Ng.length := by
      cases Ng with
      | nil => cases hNg
      | cons _ _ => exact Nat.succ_le_succ (Nat.zero_le _)
    refine ⟨⟨fun a => c.S a ∨ a = c', H1, c.pen, fun a => H1 a ≠ none ∧ ¬ (c.S a ∨ a = c'), fun a => n.μ a ≠ none⟩, n, P0, PX, SI.entry (args := [SV.lam f c' (X.env.qual ++ "<lambda>") σ (dsOf ρ)]) hN1 J1.dom (fun p e => ⟨(J1.pen p e).1, (J1.pen p e).2.1, (J1.pen p e).2.2.1⟩) (fun q hq => ⟨(J1.tabN hq).1, (J1.tab q hq).2⟩) (J1.muOk c.pen fun _ h => h) ⟨.ref f, [], rfl, ⟨rfl, hL⟩, rfl⟩, q, ⟨?_, ?_, fun _ _ _ _ _ _ z => z.elim, fun _ _ _ _ _ _ z => z.elim⟩, fun x k σ' ρ' S' H' cls dd p gr I' rx => hx x k S' H' cls dd p (g1.trans gr) (J1.called (SI.after gr I') (.inl rfl)) rx⟩
    · rintro ρ' _ k σ' S' H' rfl p gr I'
      exact hgl .non k .non S' H' p (g1.trans gr) (J1.called (SI.after gr I') (.inl rfl)) rfl
    · rintro d _ k v σ' ρ' S' H' rfl p gr I' r
      exact hgl d k v S' H' p (g1.trans gr) (J1.called (SI.after gr I') (.inl rfl)) r
  refine wpAny_call (codeAny_mono rc fun r s2 hq => ?_)
  cases r with
  | error e => exact passAt tk σ pins H1 s' e s2 I1 hq
  | ok fl =>
    cases fl with
    | ret u => exact I1.after hq
    | next => exact False.elim hq
    | brk => exact False.elim hq
    | cont => exact False.elim hq
end
end PL

/-! The layer: the end of a law's row, with tables of code objects. -/
namespace PL
open PySem PySem.Spec PyProof.Rows L2 LamX
section
variable {P : Program} {w : World} {K : PySem.W.Frag} {mg mb : Str → Option Value}
/-- the law is called over a heap in which the script and the tables alone may be told -/
theorem law_coreT {k : Nat} {fa a : Addr} {cs : List (Addr × Addr)} {T : List (Addr × Str)} {fd : FuncData} {x : Str} {s : Shared} {vs : List Value} {ns : List Int} {H : Hp} (kin : K.In s.heap) (hns : s.heap.Ns mainGlobals mg) (hb : s.heap.Ns builtinsNs mb) (hbb : ∀ y : Str, y ≠ "__name__" → mb y = bootBuiltins y) (hlim : s.heap.NoLimit) (hgen : s.gens = #[])
    (hT : ∀ p ∈ cs, s.heap.get? p.2 = some { cls := .none, data := .fields #[] }) (nT : ∀ p ∈ cs, K.lookup p.2 = none) (C : ∀ p ∈ cs, PySem.W.CodeHd s.heap p.1 p.2) (hTT : ∀ q ∈ T, ∃ p ∈ cs, q.1 = p.2)
    (hbm : ∃ (bm : Addr) (ob : Obj), mg "__builtins__" = some (.ref bm) ∧ bm ≠ builtinsNs ∧ s.heap.get? bm = some ob ∧ ob.cls = .type "module" ∧ ob.dict = some builtinsNs ∧ ob.data = .plain)
    (ho : s.heap.get? a = some { cls := .type "list", data := .seq vs.toArray }) (hl : ns.length ≤ 63) (hr : Room k callerA) (F : ∀ base : Heap, K.In base → base.Ns mainGlobals mg → (∀ p ∈ cs, TabB base mg p.1 p.2) → FnG P w K mg base k fa fd [x] (spLawT K T)) (hbind : ∀ (s : Shared) (u : Value), BindsTo s fd ⟨[u], []⟩ [(x, u)])
    (only : ∀ b, H b ≠ none → (b = a ∧ ∃ o u, H b = some (.frz o (.lst u))) ∨ (b ∈ cs.map (·.2) ∧ H b = some (.tbl #[]))) (tb : ∀ p ∈ cs, H p.2 = some (.tbl #[])) (seq : SqL K H a (ns.map V.int)) (ok : HOk P w H s.heap) (notK : (∃ o u, H a = some (.frz o (.lst u))) → K.lookup a = none) :
    codeAny (model P w) callerA (.call (.ref fa) ⟨[.ref a], []⟩) (fun r s' => r = .ok (.ret (.bool true)) ∧ OldK s.heap s'.heap ∧ s'.os = s.os ∧ AllBare s'.gens) s := by
  have isT : ∀ b : Addr, b ∈ cs.map (·.2) → s.heap.get? b = some { cls := .none, data := .fields #[] } := fun b hb => by
    obtain ⟨p, hp, e⟩ := List.mem_map.mp hb
    rw [← e]; exact hT p hp
  -- what is told is a list, or a table
  have free : ∀ {b : Addr} {o : Obj}, s.heap.get? b = some o → (∀ v n, o.data ≠ .seq v n) → o.data ≠ .fields #[] → H b = none := fun {b o} e h1 h2 => by
    rcases Classical.em (H b = none) with z | z
    · exact z
    · rcases only b z with ⟨rfl, _⟩ | ⟨hm, _⟩
      · rw [ho] at e; cases e; exact (h1 _ _ rfl).elim
      · rw [isT b hm] at e; cases e; exact (h2 rfl).elim
  have dictOut : ∀ {b : Addr} {m : Str → Option Value}, s.heap.Ns b m → (hidT s.heap H).Ns b m := fun {b m} ⟨o, es, ep, e, d, r⟩ => ⟨o, es, ep, hidT_get e (free e (fun v n z => by rw [d] at z; cases z) fun z => by rw [d] at z; cases z), d, r⟩
  have kin' : K.In (hidT s.heap H) := fun b o e => hidT_get (kin b o e) (by
    rcases Classical.em (H b = none) with z | z
    · exact z
    · rcases only b z with ⟨rfl, hf⟩ | ⟨hm, _⟩
      · rw [notK hf] at e; cases e
      · obtain ⟨p, hp, ep⟩ := List.mem_map.mp hm
        rw [← ep, nT p hp] at e; cases e)
  have mod : Mod K mg (hidT s.heap H) := ⟨kin', dictOut hns, ⟨mb, dictOut hb, hbb⟩, by obtain ⟨mc, h1, h2⟩ := hlim; exact ⟨mc, dictOut h1, h2⟩⟩
  have TB : ∀ p ∈ cs, TabB (hidT s.heap H) mg p.1 p.2 := fun p hp => by
    have hTp := hT p hp
    refine ⟨?_, ?_, fun z => ?_⟩
    · obtain ⟨o, us, file, tf, flags, tg, inF, text, tt, e1, r1, r2, r3, r4⟩ := C p hp
      refine ⟨o, us, file, tf, flags, tg, inF, text, tt, hidT_get e1 (free e1 (fun v n z => by rw [r2] at z; cases z) fun z => ?_), r1, r2, r3, r4⟩
      rw [r2] at z
      cases z
      simp at r3
    · obtain ⟨bm, ob, b1, b2, b3, b4, b5, b6⟩ := hbm
      have nG : bm ≠ mainGlobals := fun q => by
        obtain ⟨o, es, ep, e, hd, _⟩ := hns
        rw [q, e] at b3; cases b3
        rw [hd] at b6; cases b6
      have nP : bm ≠ p.2 := fun q => by
        rw [q, hTp] at b3; cases b3; cases b6
      exact ⟨bm, ob, b1, b2, nG, nP, hidT_get b3 (free b3 (fun v n z => by rw [b6] at z; cases z) fun z => by rw [b6] at z; cases z), b4, b5, b6⟩
    · obtain ⟨o, es, ep, e, hd, _⟩ := hns
      rw [z, hTp] at e; cases e; cases hd
  have e0 : Env0 P w K mg (hidT s.heap H) callerA [] s H := ⟨rfl, mod, fun _ _ e => of_hidT e, Nat.le_of_eq (hidT_size _ _), trivial, fun b hb => absurd hb (by simp [frs]), ok, .of_eq hgen⟩
  refine codeAny_mono ((F _ kin' (dictOut hns) TB).run callerA [] s H ⟨[.ref a], []⟩ [.ref a] [.ref a] (fun v _ => v = .bl true) (fun _ _ _ => False) rfl hr e0 (hbind s (.ref a)) (.cons rfl .nil) ⟨a, ns, rfl, seq, hl, fun q hq => by
    obtain ⟨p, hp, e⟩ := hTT q hq
    rw [e]; exact tb p hp, fun _ => rfl⟩) fun r s' h => ?_
  cases r with
  | error e => obtain ⟨_, _, _, _, _, _, _, _, _, _, _, _, z⟩ := h; exact z.elim
  | ok fl =>
    cases fl with
    | ret u =>
      obtain ⟨v, H', os, bare, un, hok', r', rfl⟩ := h
      obtain rfl : u = Value.bool true := r'
      have key : ∀ b o, b ∉ cs.map (·.2) → s.heap.get? b = some o → s'.heap.get? b = some o := fun b o nb e => by
        rcases Classical.em (H b = none) with q | q
        · exact un.keep b o e q (by simp [frs]) (by simp)
        · rcases only b q with ⟨_, o2, u, h2⟩ | ⟨hm, _⟩
          · have e1 := (ok b _ h2).1
            rw [e] at e1
            cases e1
            exact (hok' b _ (un.frzs b o (.lst u) h2)).1
          · exact (nb hm).elim
      have grown : ∀ p ∈ cs, ∃ more : Array Value, s'.heap.get? p.2 = some { cls := .none, data := .fields more } := fun p hp => by
        obtain ⟨more, z⟩ := un.tbls p.2 #[] (tb p hp)
        exact ⟨_, hok' p.2 _ z⟩
      refine ⟨rfl, ⟨fun b o e => ?_, fun b o e => ?_⟩, os, bare⟩
      · rcases Classical.em (b ∈ cs.map (·.2)) with hb | hb
        · obtain ⟨p, hp, ep⟩ := List.mem_map.mp hb
          obtain ⟨more, hm⟩ := grown p hp
          rw [← ep] at e ⊢
          rw [hT p hp] at e
          cases e
          exact .inr (.inl ⟨((C p hp).tab (hT p hp)).isCodeTable, rfl, #[], more, rfl, by rw [Array.empty_append]; exact hm⟩)
        · exact .inl (key b o hb e)
      · rcases Classical.em (b ∈ cs.map (·.2)) with hb | hb
        · obtain ⟨p, hp, ep⟩ := List.mem_map.mp hb
          obtain ⟨more, hm⟩ := grown p hp
          rw [← ep]
          exact ⟨_, hm⟩
        · exact ⟨o, key b o hb e⟩
    | next => exact h.elim
    | brk => exact h.elim
    | cont => exact h.elim
theorem law_runT {k : Nat} {fa a : Addr} {cs : List (Addr × Addr)} {T : List (Addr × Str)} {fd : FuncData} {x : Str} {s : Shared} {vs : List Value} {ns : List Int} (kin : K.In s.heap) (hns : s.heap.Ns mainGlobals mg) (hb : s.heap.Ns builtinsNs mb) (hbb : ∀ y : Str, y ≠ "__name__" → mb y = bootBuiltins y) (hlim : s.heap.NoLimit) (hgen : s.gens = #[])
    (hT : ∀ p ∈ cs, s.heap.get? p.2 = some { cls := .none, data := .fields #[] }) (nT : ∀ p ∈ cs, K.lookup p.2 = none) (C : ∀ p ∈ cs, PySem.W.CodeHd s.heap p.1 p.2) (hTT : ∀ q ∈ T, ∃ p ∈ cs, q.1 = p.2)
    (hbm : ∃ (bm : Addr) (ob : Obj), mg "__builtins__" = some (.ref bm) ∧ bm ≠ builtinsNs ∧ s.heap.get? bm = some ob ∧ ob.cls = .type "module" ∧ ob.dict = some builtinsNs ∧ ob.data = .plain)
    (ho : s.heap.get? a = some { cls := .type "list", data := .seq vs.toArray }) (hi : IntsAre vs ns) (hl : ns.length ≤ 63) (hr : Room k callerA) (F : ∀ base : Heap, K.In base → base.Ns mainGlobals mg → (∀ p ∈ cs, TabB base mg p.1 p.2) → FnG P w K mg base k fa fd [x] (spLawT K T)) (hbind : ∀ (s : Shared) (u : Value), BindsTo s fd ⟨[u], []⟩ [(x, u)]) :
    codeAny (model P w) callerA (.call (.ref fa) ⟨[.ref a], []⟩) (fun r s' => r = .ok (.ret (.bool true)) ∧ OldK s.heap s'.heap ∧ s'.os = s.os ∧ AllBare s'.gens) s := by
  have rv := vals_ints hi
  have big : ns.length ≤ sizeLine := Nat.le_trans hl (by rw [sizeLine_eq]; decide)
  have isT : ∀ b : Addr, b ∈ cs.map (·.2) → s.heap.get? b = some { cls := .none, data := .fields #[] } := fun b hb => by
    obtain ⟨p, hp, e⟩ := List.mem_map.mp hb
    rw [← e]; exact hT p hp
  have aT : a ∉ cs.map (·.2) := fun z => by
    have q := isT a z
    rw [ho] at q
    cases q
  have memT : ∀ p ∈ cs, p.2 ∈ cs.map (·.2) := fun p hp => List.mem_map.mpr ⟨p, hp, rfl⟩
  have okT : ∀ b, b ∈ cs.map (·.2) → ∀ H : Hp, ObjOk P w H s.heap b (.tbl #[]) := fun b hb _ => isT b hb
  by_cases hk : K.lookup a = none
  · refine law_coreT (H := fun b => if b = a then some (.frz { cls := .type "list", data := .seq vs.toArray } (.lst (ns.map V.int))) else if b ∈ cs.map (·.2) then some (.tbl #[]) else none) kin hns hb hbb hlim hgen hT nT C hTT hbm ho hl hr F hbind (fun b z => ?_) (fun p hp => (if_neg (show ¬ p.2 = a from fun z => aT (z ▸ memT p hp))).trans (if_pos (memT p hp))) (.inl (.inr ⟨_, if_pos rfl⟩)) (fun b u z => ?_) fun _ => hk
    · by_cases e : b = a
      · exact .inl ⟨e, _, _, if_pos e⟩
      · by_cases e2 : b ∈ cs.map (·.2)
        · exact .inr ⟨e2, (if_neg e).trans (if_pos e2)⟩
        · exact absurd ((if_neg e).trans (if_neg e2)) z
    · by_cases e : b = a
      · have z2 := (if_pos e).symm.trans z
        cases z2
        subst e
        exact ⟨ho, by rw [List.length_map]; exact big, vs, _, rv, ho⟩
      · have z2 := (if_neg e).symm.trans z
        by_cases e2 : b ∈ cs.map (·.2)
        · have z3 := (if_pos e2).symm.trans z2
          cases z3
          exact okT b e2 _
        · have z3 := (if_neg e2).symm.trans z2
          cases z3
  · obtain ⟨o, ek⟩ := Option.ne_none_iff_exists'.mp hk
    have e := kin a o ek
    rw [ho] at e
    cases e
    refine law_coreT (H := fun b => if b ∈ cs.map (·.2) then some (.tbl #[]) else none) kin hns hb hbb hlim hgen hT nT C hTT hbm ho hl hr F hbind (fun b z => ?_) (fun p hp => if_pos (memT p hp)) (.inr ⟨_, vs.toArray, _, ek, rfl, rfl, rfl, by rw [List.size_toArray, hi.length]; exact big, by simpa using rv⟩) (fun b u z => ?_) fun ⟨o, u, z⟩ => ?_
    · by_cases e2 : b ∈ cs.map (·.2)
      · exact .inr ⟨e2, if_pos e2⟩
      · exact absurd (if_neg e2) z
    · by_cases e2 : b ∈ cs.map (·.2)
      · have z3 := (if_pos e2).symm.trans z
        cases z3
        exact okT b e2 _
      · have z3 := (if_neg e2).symm.trans z
        cases z3
    · have z3 := (if_neg aT).symm.trans z
      cases z3
/-- the tables of the module's defs are empty -/
def TabsOf (q : Program) (mg : Str → Option Value) (h : Heap) : Prop := ∀ x : Str, ((recsOf q).any fun e => e.name == x) = true → ∃ a o fd c P, mg x = some (.ref a) ∧ h.get? a = some o ∧ o.data = .func fd ∧ fd.code = .ref c ∧ h.IsCode c P #[] ∧ h.TableAt c P #[]
theorem TabsOf.at {K : PySem.W.Frag} {q : Program} {mg : Str → Option Value} {h : Heap} {x : Str} {f c P : Addr} {fd : FuncData} {oc : Value} {od : Option Addr} {osl : Array (Option Value)} (T : TabsOf q mg h) (hx : ((recsOf q).any fun e => e.name == x) = true) (X : K.In h) (hm : mg x = some (.ref f)) (lk : K.lookup f = some ⟨oc, od, .func fd, osl⟩)
    (ct : fd.code = .ref c ∧ ∃ (o : Obj) (vs : Array Value), h.get? c = some o ∧ o.data = .fields vs ∧ vs[11]? = some (.ref P)) : PySem.W.CodeHd h c P ∧ h.get? P = some { cls := .none, data := .fields #[] } := by
  obtain ⟨a, o, fd', c', P', h1, h2, h3, h4, h5, h6⟩ := T x hx
  rw [hm] at h1
  cases h1
  have g1 := X _ _ lk
  rw [h2] at g1
  cases g1
  cases h3
  obtain ⟨e1, o1, vs, e2, e3, e4⟩ := ct
  rw [h4] at e1
  cases e1
  obtain ⟨⟨o2, vs2, f1, f2, f3, f4⟩, f5⟩ := id h6
  rw [e2] at f1
  cases f1
  rw [e3] at f3
  cases f3
  rw [e4] at f4
  cases f4
  exact ⟨.of h5 h6, f5⟩
/-- THE END of a law's row, with tables -/
theorem law_endT {l : PySem.W.OpenLaw} {k : Nat} {q : Program} {loose : List Str} {XP : (Str → Option Value) → Heap → Prop} {YP : World → Heap → Prop} {d : DefRec} {Kf : Params → PySem.W.Frag} {x : Str} (hn : l.most = some 63) (hdf : d.params.defaults = []) (hr : Room k callerA) (hY : ∀ (w : World) (h : Heap), YP w h → (Kf w.params).In h)
    (F : ∀ (w : World) (mg : Str → Option Value) (fa : Addr) (h : Heap), YP w h → (Kf w.params).In h → h.Ns mainGlobals mg → mg d.name = some (.ref fa) → TabsOf q mg h → ∃ (fd : FuncData) (cs : List (Addr × Addr)) (T : List (Addr × Str)), (∀ p ∈ cs, h.get? p.2 = some { cls := .none, data := .fields #[] }) ∧ (∀ p ∈ cs, (Kf w.params).lookup p.2 = none) ∧ (∀ p ∈ cs, PySem.W.CodeHd h p.1 p.2) ∧ (∀ q ∈ T, ∃ p ∈ cs, q.1 = p.2) ∧
      (∀ (s : Shared) (u : Value), BindsTo s fd ⟨[u], []⟩ [(x, u)]) ∧ ∀ base : Heap, (Kf w.params).In base → base.Ns mainGlobals mg → (∀ p ∈ cs, TabB base mg p.1 p.2) → FnG l.prog w (Kf w.params) mg base k fa fd [x] (spLawT (Kf w.params) T)) :
    PySem.W.WalkO q loose XP YP l.row.toRowW d [] (fun f vs => PySem.call f vs) := by
  refine Att.attach_callB hn hdf fun w s₀ s₁ mg mb fa o pm cd doc a vs ns Gr Y ho hd hcd hmg hobj hi hl _ hg => ?_
  obtain ⟨fd, cs, T, hT, nT, C, hTT, hb, hF⟩ := F w mg fa _ Y (hY w _ Y) Gr.T.g hmg (fun x hx => by
    obtain ⟨dL, hm, hn1⟩ := List.any_eq_true.mp hx
    have hn2 : dL.name = x := beq_iff_eq.mp hn1
    rw [← hn2]
    exact Gr.T.tab dL hm)
  exact law_runT (hY w _ Y) Gr.T.g Gr.T.b Gr.T.builtins Gr.T.nolimit hg hT nT C hTT Gr.T.bmain hobj hi hl hr hF hb
end
end PL

/-! The layer: count and index of a list of truth values. -/
namespace PL
open PySem PySem.Spec L2
def boolsD : List D → Option (List Bool)
  | [] => some []
  | .bl b :: xs => (boolsD xs).map fun bs => b :: bs
  | _ :: _ => none
theorem boolsD_vals {K : PySem.W.Frag} {S : Addr → Prop} {H : Hp} : ∀ {xs : List D} {bs : List Bool} {vs : List V}, boolsD xs = some bs → Reps K S H xs vs → vs = bs.map V.bl
  | [], bs, vs, e, r => by
    cases e
    exact r
  | x :: xs, bs, vs, e, r => by
    obtain ⟨v, ws, rfl, r1, r2⟩ := r
    cases x with
    | bl b =>
      unfold boolsD at e
      cases h : boolsD xs with
      | none => rw [h] at e; cases e
      | some cs =>
        rw [h] at e
        cases e
        rw [boolsD_vals h r2]
        cases r1
        rfl
    | _ => cases e
theorem dp_bools {K : PySem.W.Frag} {H : Hp} : ∀ bs : List Bool, DpAll K H (bs.map V.bl) (bs.map PyData.bool)
  | [] => .nil
  | b :: bs => .cons (.bl b) (dp_bools bs)
theorem shaped_bools (bs : List Bool) : SeqAt.shaped (.list (bs.map PyData.bool)) = true := by
  have h1 : ∀ l : List Bool, PyData.canLayAll0 (l.map PyData.bool) = true := fun l => by
    induction l with
    | nil => simp [PyData.canLayAll0]
    | cons x l ih => simp [PyData.canLayAll0, PyData.canLay0, ih]
  have h2 : ∀ l : List Bool, PyData.depthAll (l.map PyData.bool) = 0 := fun l => by
    induction l with
    | nil => simp [PyData.depthAll]
    | cons x l ih => simp [PyData.depthAll, PyData.depth, ih]
  simp [SeqAt.shaped, PyData.canLay0, PyData.depth, h1 bs, h2 bs]
theorem eqv_bools (a b : Bool) : PyData.eqv (.bool a) (.bool b) = (a == b) := by
  cases a <;> cases b <;> decide +kernel
section
variable {X : Cx}
def rCntB (K : PySem.W.Frag) : V → List V → Hp → VK → Prop := fun x xs H Q => ∃ (p : Addr) (bs : List Bool) (b : Bool), x = .ref p ∧ xs = [.bl b] ∧ SqL K H p (bs.map V.bl) ∧ Q (.int (bs.count b : Nat)) H
theorem mt_cntB (hu : X.A.units + 65 < cLine) : MtR X "list.count" (rCntB X.K) := by
  intro pins s σ H x xs v us Q I rx rxs h
  obtain ⟨p, bs, b, rfl, rfl, hs, q⟩ := h
  cases rx
  obtain ⟨u, rfl, ru⟩ := rxs.one
  obtain rfl : u = Value.bool b := ru
  obtain ⟨its, rv, ⟨⟨cls, dd, data, sl⟩, n, ho, hc, hdn, hd⟩, hlen⟩ := I.list hs
  simp only at hc hd
  subst hc hd
  obtain ⟨as, h4⟩ := Dp.readsAll I (bs.map PyData.bool) _ its (dp_bools bs) rv
  have hxs : PyData.canLayAll0 (bs.map PyData.bool) = true := SeqAt.canLay_of_shaped (shaped_bools bs)
  have hmap := SeqAt.readsAll_map (bs.map PyData.bool) its as hxs h4
  obtain ⟨cs, r1⟩ := Dp.reads I (.bool b) (.bl b) (.bool b) (.bl b) rfl
  have room : X.A.units + 1 + min (PyData.depthAll (bs.map PyData.bool)) (PyData.bool b).depth < cLine := by
    have : (PyData.bool b).depth = 0 := by simp [PyData.depth]
    rw [this]; omega
  refine call_meets PySem.F.slot_list_count ⟨_, ho, rfl⟩ PySem.F.entry_list_count (PySem.F.args_list_count_2 _ _)
    (SeqAt.list_countAt p its.toArray n dd sl (.bool b) (fun u => PyData.eqv (SeqAt.readOf s.heap u) (.bool b))) ⟨ho, SeqAt.items_eqAt (vs := its.toArray) (show ReadsAll s.heap its.toArray.toList (bs.map PyData.bool) as from h4) r1 hxs (by cases b <;> decide) room, ?_⟩
  have ec : its.toArray.toList.countP (fun u => PyData.eqv (SeqAt.readOf s.heap u) (.bool b)) = bs.count b := by
    have e1 : its.countP (fun u => PyData.eqv (SeqAt.readOf s.heap u) (.bool b)) = (its.map (SeqAt.readOf s.heap)).countP (fun y => PyData.eqv y (.bool b)) := by rw [List.countP_map]; rfl
    show its.countP _ = _
    rw [e1, hmap, List.countP_map]
    exact congrArg (fun f => List.countP f bs) (funext fun a => eqv_bools a b)
  rw [ec]
  exact ⟨.int (bs.count b : Nat), H, I.tok _, ⟨_, rfl⟩, q⟩
end
section
variable {G : PenK} {X : Cx} {Wx : WX}
def lstW (x : D) : W (List D) := match x with
  | .lst xs => ret xs
  | _ => stuck
theorem u65 {A : Around} {k : Nat} (r : Room k A) : A.units + 65 < cLine := by
  have := r.un
  omega
/-- class names: of the program, of the builtins -/
theorem nmG {x : Str} {c : Value} (hd : (x == ("__debug__" : Str)) = false) (hm : X.mg x = some c) (hg : Gl X x := by rfl) : Names X x c := ⟨hg, hd, .inl hm⟩
theorem nmB {x : Str} {c : Value} (hd : (x == ("__debug__" : Str)) = false) (hm : X.mg x = none) (hv : bootBuiltins x = some c) (hn : x ≠ "__name__") (hg : Gl X x := by rfl) : Names X x c := ⟨hg, hd, .inr ⟨hm, hv, hn⟩⟩
theorem lz {α : Type} {xs : List α} (n : Nat) (h : xs.length = n) (h2 : n ≤ sizeLine) : xs.length ≤ sizeLine := h ▸ h2
/-- the clauses of a list, one by one -/
theorem ap_nil {α : Type} {p : α → Prop} : ∀ x ∈ ([] : List α), p x := fun _ h => nomatch h
theorem ap_cons {α : Type} {p : α → Prop} {a : α} {l : List α} (h : p a) (t : ∀ x ∈ l, p x) : ∀ x ∈ a :: l, p x := fun x hx => by
  rcases List.mem_cons.mp hx with e | e
  · rw [e]; exact h
  · exact t x e
/-- the def statement j of a class's body -/
def clsDef (s : Stmt) (j : Nat) : Stmt := match s with
  | .ClassDef _ _ _ body _ _ _ _ _ _ _ => body.getD j (.Pass ⟨0, 0, 0, 0⟩)
  | _ => .Pass ⟨0, 0, 0, 0⟩
/-- what the kernel reads of an error's class -/
def oexChk (K : PySem.W.Frag) (C : Addr) (bmB : List Value) (newId : String) (f : Str) : Bool := PySem.W.excInitIn K C bmB newId && PySem.W.excOver K C bmB && PySem.W.hasDictIn K C && (PySem.W.findIn K (.ref C) "__setattr__" == some (some (.builtin "object.__setattr__"))) &&
  (PySem.W.subIn K (.ref C) (.type "BaseException") == some true) && (PySem.W.typeIn K (.ref C) == some (.type "type")) && PySem.W.keepIn K (.ref C) && (PySem.W.findIn K (.ref C) f == some none)
theorem oexChk_ok {K : PySem.W.Frag} {C : Addr} {bmB : List Value} {newId : String} {f : Str} (h : oexChk K C bmB newId f = true) : OexB K C bmB newId ∧ PySem.W.findIn K (.ref C) f = some none := by
  unfold oexChk at h
  simp only [Bool.and_eq_true, beq_iff_eq] at h
  obtain ⟨⟨⟨⟨⟨⟨⟨h1, h2⟩, h3⟩, h4⟩, h5⟩, h6⟩, h7⟩, h8⟩ := h
  exact ⟨⟨h1, h2, h3, h4, h5, h6, h7⟩, h8⟩
/-- the classes that have a field -/
def fldChk (K : PySem.W.Frag) (as : List (Str × Addr)) (f : Str) : Bool := as.all fun a => xfB K a.2 && (PySem.W.findIn K (.ref a.2) f == some none)
theorem fldOk_of {K : PySem.W.Frag} {mg : Str → Option Value} {as : List (Str × Addr)} {f : Str} (hm : ∀ a ∈ as, mg a.1 = some (.ref a.2)) (h : fldChk K as f = true) : FldOk K mg (as.map fun a => a.1) f := fun y A e hy => by
  obtain ⟨a, ha, ea⟩ := List.mem_map.mp hy
  have q := List.all_eq_true.mp h a ha
  rw [Bool.and_eq_true, beq_iff_eq] at q
  have := hm a ha
  rw [ea, e] at this
  cases this
  exact ⟨xfB_ok q.1, q.2⟩
theorem errI_of2 {K : PySem.W.Frag} {mg : Str → Option Value} {t : ETab} {as : List (Str × Addr)} {ns : List Str} {cs : List (Str × Value)} (hm : ∀ a ∈ as, mg a.1 = some (.ref a.2)) (hns : as.map (·.1) = ns) (hk : t.all (fun p => ns.any fun a => a == p.1) = true) (h : errChk K t as cs = true) : ErrI K mg t cs :=
  errI_of hm (by rw [← hk, ← hns]; congr 1; funext p; rw [List.any_map]; rfl) h
/-- a def's code object and its table -/
def codeTab (K : PySem.W.Frag) (cdv : Value) : Option (Addr × Addr) := match cdv with
  | .ref c => (match K.lookup c with
    | some ⟨_, _, .fields vs, _⟩ => (match (vs[11]? : Option Value) with | some (Value.ref P) => some (c, P) | _ => none)
    | _ => none)
  | _ => none
theorem codeTab_is {K : PySem.W.Frag} {h : Heap} {cdv : Value} {c P : Addr} (X : K.In h) (e : codeTab K cdv = some (c, P)) : cdv = .ref c ∧ ∃ (o : Obj) (vs : Array Value), h.get? c = some o ∧ o.data = .fields vs ∧ vs[11]? = some (.ref P) := by
  unfold codeTab at e
  split at e
  · split at e
    · rename_i ho
      split at e
      · rename_i hv
        cases e
        exact ⟨rfl, _, _, X _ _ ho, rfl, hv⟩
      · cases e
    · cases e
  · cases e
def boolsW {α : Type} (xs : List D) (y : D) (f : List Bool → Bool → W α) : W α := match boolsD xs, y with
  | some bs, .bl b => f bs b
  | _, _ => stuck
theorem boolsW_inv {α : Type} {xs : List D} {y : D} {f : List Bool → Bool → W α} {n : Nt} {P : α → Nt → Prop} {PX : Exc → Nt → Prop} (h : boolsW xs y f n P PX) : ∃ bs b, boolsD xs = some bs ∧ y = .bl b ∧ f bs b n P PX := by
  unfold boolsW at h
  cases e : boolsD xs with
  | none => rw [e] at h; cases y <;> exact h.elim
  | some bs =>
    rw [e] at h
    cases y with
    | bl b => exact ⟨bs, b, rfl, rfl, h⟩
    | _ => exact h.elim
theorem idx_first : ∀ {bs : List Bool} {b : Bool} {j : Nat}, bs.findIdx? (· == b) = some j → bs[j]? = some b ∧ ∀ m z, m < j → bs[m]? = some z → (z == b) = false := fun {bs b j} h => by
  obtain ⟨h1, h2, h3⟩ := List.findIdx?_eq_some_iff_getElem.mp h
  refine ⟨by rw [List.getElem?_eq_getElem h1]; exact congrArg some (eq_of_beq h2), fun m z hm hz => ?_⟩
  have hl : m < bs.length := Nat.lt_trans hm h1
  rw [List.getElem?_eq_getElem hl] at hz
  cases hz
  have := h3 m hm
  simpa using this
def cntW (xs : List D) (y : D) : W D := boolsW xs y fun bs b => ret (.int (bs.count b : Nat))
def idxW (xs : List D) (y : D) : W D := boolsW xs y fun bs b => match bs.findIdx? (· == b) with
  | some j => ret (.int (j : Nat))
  | none => stuck
/-- l.count(b) -/
theorem e_cntB {o e : Expr} {apos pos : Pos} {go ge : Env → W D} (hu : X.A.units + 65 < cLine) (ho : E G X Wx o go) (he : E G X Wx e ge) (hbase : attributeBase o "count" X.env (eval o X.env) = eval o X.env := by rfl) (hline : (apos.endLine == pos.line) = true := by rfl)
    (hs : starEach [e] X.env = (false, eval e X.env) :: starEach [] X.env := by rfl) (hfew : ((backTo pos (starEach [e] X.env)).all (fun x => !x.1) && (backToKw pos (keywordEach [] X.env)).all (fun x => x.1.isSome) && decide ([e].length + ([] : List Keyword).length + (if ([] : List Keyword).isEmpty then 0 else 1) < 30)) = true := by rfl) : E G X Wx (.Call (.Attribute o "count" apos) [e] [] pos) (fun ρ => bnd (go ρ) fun x => bnd (lstW x) fun xs => bnd (ge ρ) fun y => cntW xs y) :=
  weakE (pe_bm PySem.F.plainAttrs_list PySem.F.slot_list_count PySem.F.type_list_count (mt_cntB hu) ho (pa_cons he pa_nil hs) hbase hfew hline hs (by rfl)) fun σ H Q ⟨c, ρ, n, P, PX, I, q, hg, hx⟩ => tE.bnd I q hx fun d k u S' H' p g I' hx' r => by
    cases d with
    | lst xs =>
      obtain ⟨a, vs, rfl, r1, hz, rs⟩ := r
      refine ⟨.inl ⟨rfl, _, r1.sq⟩, tE.bnd (f := fun y => cntW xs y) I' p hx' fun y k2 w S2 H2 p2 g2 I2 hx2 r2 => ?_⟩
      obtain ⟨bs, b, e1, rfl, p3⟩ := boolsW_inv (show boolsW xs y _ k2 P PX from p2)
      cases r2
      have e2 := boolsD_vals e1 rs
      subst e2
      exact ⟨a, bs, b, rfl, rfl, (r1.grow g2).sq, hg (.int (bs.count b : Nat)) k2 _ S2 H2 p3 (g.trans g2) I2 rfl⟩
    | _ => exact p.elim
/-- l.index(b) -/
theorem e_idxB {o e : Expr} {apos pos : Pos} {go ge : Env → W D} (ho : E G X Wx o go) (he : E G X Wx e ge) (hbase : attributeBase o "index" X.env (eval o X.env) = eval o X.env := by rfl) (hline : (apos.endLine == pos.line) = true := by rfl)
    (hs : starEach [e] X.env = (false, eval e X.env) :: starEach [] X.env := by rfl) (hfew : ((backTo pos (starEach [e] X.env)).all (fun x => !x.1) && (backToKw pos (keywordEach [] X.env)).all (fun x => x.1.isSome) && decide ([e].length + ([] : List Keyword).length + (if ([] : List Keyword).isEmpty then 0 else 1) < 30)) = true := by rfl) : E G X Wx (.Call (.Attribute o "index" apos) [e] [] pos) (fun ρ => bnd (go ρ) fun x => bnd (lstW x) fun xs => bnd (ge ρ) fun y => idxW xs y) :=
  weakE (pe_bm PySem.F.plainAttrs_list PySem.F.slot_list_index PySem.F.type_list_index mt_index ho (pa_cons he pa_nil hs) hbase hfew hline hs (by rfl)) fun σ H Q ⟨c, ρ, n, P, PX, I, q, hg, hx⟩ => tE.bnd I q hx fun d k u S' H' p g I' hx' r => by
    cases d with
    | lst xs =>
      obtain ⟨a, vs, rfl, r1, hz, rs⟩ := r
      refine ⟨.inl ⟨rfl, _, r1.sq⟩, tE.bnd (f := fun y => idxW xs y) I' p hx' fun y k2 w S2 H2 p2 g2 I2 hx2 r2 => ?_⟩
      obtain ⟨bs, b, e1, rfl, p3⟩ := boolsW_inv (show boolsW xs y _ k2 P PX from p2)
      cases r2
      have e2 := boolsD_vals e1 rs
      subst e2
      cases ej : bs.findIdx? (· == b) with
      | none => rw [ej] at p3; exact p3.elim
      | some j =>
        rw [ej] at p3
        obtain ⟨h1, h2⟩ := idx_first ej
        refine ⟨a, _, .bl b, j, .bl b, rfl, rfl, (r1.grow g2).sq, rfl, by simp [List.all_map, flatV], by rw [List.getElem?_map, h1]; rfl, by cases b <;> rfl, fun m z' hm hz' => ?_, hg (.int (j : Nat)) k2 _ S2 H2 p3 (g.trans g2) I2 rfl⟩
        rw [List.getElem?_map] at hz'
        cases e3 : bs[m]? with
        | none => rw [e3] at hz'; cases hz'
        | some z =>
          rw [e3] at hz'
          cases hz'
          have := h2 m z hm e3
          cases z <;> cases b <;> first | rfl | exact absurd this (by decide)
    | _ => exact p.elim
end
end PL

/-! The layer: min(xs, default=None) of ints. -/
namespace PL
open PySem PySem.Spec PyProof.Rows L2
/-- the least of some ints, or None -/
def minNo (l : List Int) : D := match l with
  | [] => .non
  | i :: is => .int (is.foldl min i)
def minNV (l : List Int) : V := match l with
  | [] => .non
  | i :: is => .int (is.foldl min i)
def rMinN (K : PySem.W.Frag) : List V → List V → Hp → VK → Prop := fun vs zs H Q => ∃ (a : Addr) (ns : List Int), vs = [V.ref a] ∧ zs = [V.non] ∧ SqL K H a (ns.map V.int) ∧ Q (minNV ns) H
theorem alike_ints (ns : List Int) : PySem.W.AlikeAll (ns.map PyData.int) := by
  refine ⟨fun x hx y hy => ?_, fun x hx => ?_⟩
  · obtain ⟨i, _, rfl⟩ := List.mem_map.mp hx
    obtain ⟨j, _, rfl⟩ := List.mem_map.mp hy
    rfl
  · obtain ⟨i, _, rfl⟩ := List.mem_map.mp hx
    exact fun z => nomatch z
theorem depth_ints : ∀ ns : List Int, PyData.depthAll (ns.map PyData.int) = 0
  | [] => rfl
  | i :: ns => by
    simp only [List.map_cons, PyData.depthAll, PyData.depth, depth_ints ns]
    rfl
theorem cr_minN {X : Cx} (hc : X.calm = true) (hu : X.A.units + 65 < cLine) : CallRK X (.builtin "min") [Str.ofString "default"] (rMinN X.K) := by
  intro pins s σ H vs zs us ws Q I r rz h
  obtain ⟨a, ns, rfl, rfl, hs, q⟩ := h
  obtain rfl := Vals.ref1 r
  obtain ⟨w1, rfl, e1⟩ := vals1 rz
  obtain rfl : w1 = Value.none := e1
  obtain ⟨its, rv, hl, _⟩ := I.list hs
  have hi := rv.ints
  refine PySem.W.min_list_default (xs := ns.map PyData.int) (as := []) (I.ok.hd hc) hl.isList (IntsAre.reads s.heap hi) (alike_ints ns) (by rw [depth_ints]; omega) (fun e h' tk hk => ?_) fun y ys i v h' tk bs e hv hr hk => ?_
  · cases ns with
    | nil => exact ⟨.non, H, I.kept hk, rfl, q⟩
    | cons _ _ => cases e
  · cases ns with
    | nil => cases e
    | cons n ns =>
      obtain ⟨rfl, rfl⟩ := List.cons.inj e
      rw [PySem.W.minD_ints] at hr
      obtain ⟨t, rfl, _⟩ := reads_int_inv hr
      exact ⟨.int (ns.foldl min n), H, I.kept hk, ⟨_, rfl⟩, q⟩
def minNW : D → W D
  | .lst xs => bnd (optW (intsL xs)) fun l => ret (minNo l)
  | _ => stuck
section
variable {G : PenK} {X : Cx} {Wx : WX}
theorem minNo_rep {K : PySem.W.Frag} {S : Addr → Prop} {H : Hp} (l : List Int) : Rep K S H (minNo l) (minNV l) := by
  cases l <;> exact rfl
/-- min(xs, default=None) -/
theorem e_minN {p pos kpos cp : Pos} {e : Expr} {g : Env → W D} (hc : X.calm = true) (hm : X.mg "min" = none) (hu : X.A.units + 65 < cLine) (h : E G X Wx e g) (hg : Gl X "min" := by rfl)
    (hs : starEach [e] X.env = (false, eval e X.env) :: starEach [] X.env := by rfl) (he : backTo pos (starEach [e] X.env) = (false, eval e X.env) :: backTo pos (starEach [] X.env) := by rfl) (hpl : (backTo pos (starEach [e] X.env)).any (·.1) = false := by rfl)
    (hall : (backToKw pos (keywordEach [⟨some (Str.ofString "default"), .Constant .none 0 cp, kpos⟩] X.env)).all (·.1.isSome) = true := by rfl) (hnone : (backToKw pos (keywordEach [⟨some (Str.ofString "default"), .Constant .none 0 cp, kpos⟩] X.env)).any (·.1.isNone) = false := by rfl)
    (hks : (backToKw pos (keywordEach [⟨some (Str.ofString "default"), .Constant .none 0 cp, kpos⟩] X.env)).filterMap (·.1) = [Str.ofString "default"] := by rfl) :
    E G X Wx (.Call (.Name "min" p) [e] [⟨some (Str.ofString "default"), .Constant .none 0 cp, kpos⟩] pos) (fun ρ => bnd (g ρ) minNW) := by
  refine weakE (pe_callBK (cr_minN hc hu) hg hm (by decide +kernel) (pa_cons h pa_nil hs) (pk_cons pe_non pk_nil) (by decide) (by decide) he hpl hall hnone hks) fun σ H Q ⟨c, ρ, n, P, PX, I, q, hgo, hx⟩ => ?_
  refine tE.bnd (f := minNW) I q hx fun d k v S' H' p g I' hx' r => ?_
  cases d with
  | lst xs =>
    obtain ⟨a, vs, rfl, r1, z, q1⟩ := r
    obtain ⟨l, el, q⟩ := optW_inv (show optW (intsL xs) k (fun l k => P (minNo l) k) PX from p)
    obtain rfl := reps_ints q1 el
    exact ⟨a, l, rfl, rfl, r1.sq, hgo (minNo l) k _ _ _ q g I' (minNo_rep l)⟩
  | _ => exact False.elim p
end
end PL

/-! The layer: objects that are changed (lists of data without parts, of objects), told in the state. -/
namespace PL
open PySem PySem.Spec PyProof.Rows L2
def PenK.wc (G : PenK) (b : Bool) : PenK := { G with chg := b }
def setM (μ : Addr → Option Nd) (a : Addr) (nd : Nd) : Addr → Option Nd := fun b => if b = a then some nd else μ b
theorem setM_same {μ : Addr → Option Nd} {a : Addr} {nd : Nd} : setM μ a nd a = some nd := if_pos rfl
theorem setM_ne {μ : Addr → Option Nd} {a b : Addr} {nd : Nd} (h : b ≠ a) : setM μ a nd b = μ b := if_neg h
theorem setM_some {μ : Addr → Option Nd} {a b : Addr} {nd : Nd} (h : μ b ≠ none) : setM μ a nd b ≠ none := by
  unfold setM
  split
  · exact fun z => nomatch z
  · exact h
section
variable {G : PenK} {K : PySem.W.Frag} {c : C} {σ : L2.St} {ρ : Env} {H : Hp} {n : Nt} {a : Addr} {o : HO} {nd : Nd}
/-- a thing of nobody's becomes an object -/
theorem SI.mkObj (hc : G.chg = true) (I : SI G K c σ H ρ n) (y : FreshAt c n σ ρ a) (r : NdOk K c.S H a nd) (hp : ¬ G.pent c a) : SI G K c σ H ρ ⟨n.n, setM n.μ a nd⟩ := by
  refine ⟨I.len, I.slots, fun i sv b e ho es => ⟨(I.own i sv b e ho es).1, (I.own i sv b e ho es).2.1, ?_⟩, I.apart, I.dom, I.fr, I.pen, I.no, I.tab, fun b md e => ?_, fun b h => ⟨setM_some (I.mu0 b h).1, (I.mu0 b h).2⟩, fun z => by rw [hc] at z; cases z⟩
  · show setM n.μ a nd b = none
    rw [setM_ne (show b ≠ a from fun z => y.2 i sv e ho (by rw [← z]; exact es))]
    exact (I.own i sv b e ho es).2.2
  · have e : setM n.μ a nd b = some md := e
    by_cases z : b = a
    · rw [z] at e ⊢
      rw [setM_same] at e
      cases e
      exact ⟨r, y.1.1, .inr y.1.2.1, hp⟩
    · rw [setM_ne z] at e
      exact I.mu b md e
/-- an object is changed -/
theorem SI.st (I : SI G K c σ H ρ n) (ha : n.μ a ≠ none) (r : NdOk K c.S (upd H a o) a nd) : SI G K c σ (upd H a o) ρ ⟨n.n, setM n.μ a nd⟩ ∧ Grow c.S c.S H (upd H a o) := by
  obtain ⟨nd0, e0⟩ := Option.ne_none_iff_exists'.mp ha
  obtain ⟨m1, m2, m3, m4⟩ := I.mu a nd0 e0
  have g : Grow c.S c.S H (upd H a o) := ⟨fun _ q => q, fun b q => upd_ne fun z => m2 (z ▸ q)⟩
  have neO : ∀ i sv b, ρ[i]? = some sv → sv.isOwn = true → slot σ i = some (.ref b) → b ≠ a := fun i sv b e ho es z => by
    have := (I.own i sv b e ho es).2.2
    rw [z, e0] at this
    cases this
  refine ⟨⟨I.len, fun i sv e => (I.slots i sv e).grow g fun b eb ho => upd_ne (neO i sv b e ho eb), fun i sv b e ho es => ⟨(I.own i sv b e ho es).1, (I.own i sv b e ho es).2.1, ?_⟩, I.apart, fun b q => by rw [g.eq b q]; exact I.dom b q, fun b u e hn => ?_, fun p e => ?_, I.no, fun q e => ⟨(I.tab q e).1, (I.tab q e).2.grow g (upd_ne fun z => m4 (.inr ⟨q, e, z.symm⟩))⟩, fun b md e => ?_, fun b h => ⟨setM_some (I.mu0 b h).1, (I.mu0 b h).2⟩, fun z => ?_⟩, g⟩
  · show setM n.μ a nd b = none
    rw [setM_ne (neO i sv b e ho es)]
    exact (I.own i sv b e ho es).2.2
  · rw [upd_ne fun z => by
      rcases m3 with w | w
      · exact hn (.inr (z ▸ w))
      · rw [z, w] at e; cases e]
    exact I.fr b u e hn
  · obtain ⟨h1, h2, h3, h4, h5⟩ := I.pen p e
    exact ⟨G.dep h1 (upd_ne fun z => m4 (.inl ⟨p, e, .inl z.symm⟩)) (upd_ne fun z => m4 (.inl ⟨p, e, .inr z.symm⟩)), h2, h3, h4, h5⟩
  · have e : setM n.μ a nd b = some md := e
    by_cases z : b = a
    · rw [z] at e ⊢
      rw [setM_same] at e
      cases e
      exact ⟨r, m2, m3, m4⟩
    · rw [setM_ne z] at e
      exact ⟨(I.mu b md e).1.move (upd_ne z), (I.mu b md e).2⟩
  · have := I.mz z a
    rw [e0] at this
    cases this
end
theorem reps_ob {K : PySem.W.Frag} {S : Addr → Prop} {H : Hp} : ∀ {xs : List D} {vs : List V}, xs.all D.sc = true → Reps K S H xs vs → Paired (RepO K S H) (xs.map .d) vs
  | [], _, _, h => by
    have e : _ = [] := h
    rw [e]
    exact .nil
  | x :: xs, _, z, h => by
    obtain ⟨v, ws, rfl, r, q⟩ := h
    rw [List.all_cons, Bool.and_eq_true] at z
    exact .cons ⟨z.1, r⟩ (reps_ob z.2 q)
theorem paired_len {α β : Type} {r : α → β → Prop} : ∀ {xs : List α} {ys : List β}, Paired r xs ys → ys.length = xs.length
  | _, _, .nil => rfl
  | _, _, .cons _ t => congrArg (· + 1) (paired_len t)
theorem pairedO_at {α β : Type} {r : α → β → Prop} : ∀ {xs : List α} {ys : List β} {i : Nat} {x : α}, Paired r xs ys → xs[i]? = some x → ∃ y, ys[i]? = some y ∧ r x y
  | _, _, _, _, .nil, e => by cases e
  | _, _, 0, _, .cons h _, e => by cases e; exact ⟨_, rfl, h⟩
  | _, _, i + 1, _, .cons _ t, e => pairedO_at (i := i) t e
theorem paired_set {α β : Type} {r : α → β → Prop} {x : α} {y : β} : ∀ (i : Nat) {xs : List α} {ys : List β}, Paired r xs ys → r x y → Paired r (xs.set i x) (ys.set i y)
  | _, _, _, .nil, _ => .nil
  | 0, _, _, .cons _ t, h => .cons h t
  | i + 1, _, _, .cons h t, q => .cons h (paired_set i t q)
/-! ### a name that holds an object -/
def objAt {α : Type} (ρ : Env) (i : Nat) (f : Addr → W α) : W α := match svAt ρ i with
  | .o a => f a
  | _ => stuck
theorem objAt_inv {α : Type} {ρ : Env} {i : Nat} {f : Addr → W α} {n : Nt} {P : α → Nt → Prop} {PX : Exc → Nt → Prop} (h : objAt ρ i f n P PX) : ∃ a, ρ[i]? = some (.o a) ∧ f a n P PX := by
  unfold objAt svAt at h
  cases e : ρ[i]? with
  | none => rw [e] at h; exact h.elim
  | some sv =>
    rw [e] at h
    cases sv with
    | o a => exact ⟨a, rfl, h⟩
    | _ => exact h.elim
def lstM (n : Nt) (a : Addr) : Option (List Ob) := match n.μ a with
  | some (.lst xs) => some xs
  | _ => none
theorem lstM_some {n : Nt} {a : Addr} {xs : List Ob} (h : lstM n a = some xs) : n.μ a = some (.lst xs) := by
  unfold lstM at h
  split at h
  · rename_i e; cases h; exact e
  · cases h
/-- what stands at a place of an object: data -/
def ixOb (a : Addr) (d : D) : W D := fun n P _ => ∃ (xs : List Ob) (j : Int) (x : D), lstM n a = some xs ∧ d = .int j ∧ atI xs j = some (.d x) ∧ P x n
/-- .. is set -/
def stOb (a : Addr) (k v : D) : W Unit := fun n P _ => ∃ (xs : List Ob) (j : Int) (t : Nat), lstM n a = some xs ∧ k = .int j ∧ ixN xs.length j = some t ∧ v.sc = true ∧ P () ⟨n.n, setM n.μ a (.lst (xs.set t (.d v)))⟩
/-- a new object -/
def mkL (xs : List D) : W Addr := fun n P _ => xs.all D.sc = true ∧ ∀ a, n.μ a = none → P a ⟨n.n, setM n.μ a (.lst (xs.map .d))⟩
theorem atI_paired {α β : Type} {r : α → β → Prop} {xs : List α} {ys : List β} {i : Int} {x : α} (p : Paired r xs ys) (h : atI xs i = some x) : ∃ y, atI ys i = some y ∧ r x y := by
  unfold atI at h ⊢
  rw [paired_len p]
  cases e : ixN xs.length i with
  | none => rw [e] at h; cases h
  | some j =>
    rw [e] at h
    exact pairedO_at p h
section
variable {G : PenK} {X : Cx} {Wx : WX} {γ : Type} {En : Enz γ} {ρ : Env} {rest : List Stmt} {m : W γ}
theorem e_ixObj {x : Str} {px pos : Pos} {b : Expr} {gb : Env → W D} (i : Nat) (hb : E G X Wx b gb) (hs : PlainIx b := by intro _ _; rfl) (hN : X.N[i]? = some x := by rfl) (hv : Vis X.env.scope x := by first | exact Or.inl rfl | exact Or.inr (Or.inl rfl) | exact Or.inr (Or.inr rfl)) (hd : (x == ("__debug__" : Str)) = false := by decide) (hcd : (x == ("__classdict__" : Str)) = false := by decide) :
    E G X Wx (.Subscript (.Name x px) b pos) (fun ρ => objAt ρ i fun a => bnd (gb ρ) fun d => ixOb a d) :=
  weakE (pe_ix ix_list (pe_var hN hv hd hcd) hb hs) fun σ H Q ⟨c, ρ, n, P, PX, I, q, hg, hx⟩ => by
    obtain ⟨a, e1, q⟩ := objAt_inv q
    have e2 : slot σ i = some (.ref a) := I.slots i _ e1
    refine ⟨.ref a, slot_some e2, tE.bnd (f := fun d => ixOb a d) I q hx fun d k v S' H' p g I' hx' r' => ?_⟩
    obtain ⟨xs, j, x, h1, rfl, h3, p⟩ := p
    obtain ⟨⟨vs, m1, z, pr⟩, _⟩ := I'.mu a _ (lstM_some h1)
    obtain ⟨y, h4, h5⟩ := atI_paired pr h3
    cases r'
    exact ⟨a, vs, j, y, rfl, rfl, SqL.of m1, h4, hg x k y S' H' p g I' h5.2⟩
theorem s_setObj {x : Str} {px ps pos : Pos} {k e : Expr} {gk ge : Env → W D} (i : Nat) (hk : E G X Wx k gk) (he : E G X Wx e ge) (hN : X.N[i]? = some x := by rfl) (hv : Vis X.env.scope x := by first | exact Or.inl rfl | exact Or.inr (Or.inl rfl) | exact Or.inr (Or.inr rfl)) (hd : (x == ("__debug__" : Str)) = false := by decide)
    (hcd : (x == ("__classdict__" : Str)) = false := by decide) (hs : swapsWithSole [.Subscript (.Name x px) k ps] e pos.line X.env = pure false := by rfl) (hw : swappedStores [.Subscript (.Name x px) k ps] e X.env = pure none := by rfl) (h1 : (assignEach [.Subscript (.Name x px) k ps] X.env).map (·.2) = [assign (.Subscript (.Name x px) k ps) X.env] := by rfl)
    (ha : ∀ v, assign (.Subscript (.Name x px) k ps) X.env v = (do
      let ov ← holding [v] (eval (.Name x px) X.env)
      let iv ← holding [v, ov] (eval k X.env)
      standAt ps
      holding [v, ov, iv] (setItem ov iv v)
      release [v, ov, iv] []) := by intro _; rfl) :
    St1 G X Wx (.Assign [.Subscript (.Name x px) k ps] e pos) (fun ρ => objAt ρ i fun a => bnd (bnd (ge ρ) fun v => bnd (gk ρ) fun k => stOb a k v) fun _ => ret (.nx ρ)) :=
  weakS (ps_asg he (pg_sub (pe_var hN hv hd hcd) hk set_list ha) hs hw h1) fun Dn σ H ⟨c, ρ, n, P, PX, I, q, hg, hx⟩ => by
    obtain ⟨a, e1, q⟩ := objAt_inv q
    have e2 : slot σ i = some (.ref a) := I.slots i _ e1
    refine tE.bnd (α := Out) (P := P) (f := fun v => bnd (gk ρ) fun k => bnd (stOb a k v) fun _ => ret (Out.nx ρ)) I q hx.x fun d k0 v S' H' p g I' hx' r' => ⟨.ref a, slot_some e2, tE.bnd (α := Out) (P := P) (f := fun k => bnd (stOb a k d) fun _ => ret (Out.nx ρ)) I' p hx' fun kd k1 kv S2 H2 p2 g2 I2 hx2 rk => ?_⟩
    obtain ⟨xs, j, t, h1, rfl, h3, hsc, p2⟩ := p2
    have hm := lstM_some h1
    obtain ⟨⟨vs, m1, z, pr⟩, _⟩ := I2.mu a _ hm
    cases rk
    obtain ⟨I3, g3⟩ := I2.st (a := a) (o := .lst (vs.set t v)) (nd := .lst (xs.set t (.d d))) (by rw [hm]; exact fun z => nomatch z) ⟨_, upd_same, by rw [List.length_set]; exact z, paired_set t (paired_imp (fun _ _ h => h.move) pr) ⟨hsc, r'.sc hsc⟩⟩
    exact ⟨a, vs, j, t, rfl, rfl, m1, by rw [paired_len pr]; exact h3, hg.1 _ _ σ _ _ p2 ((g.trans g2).trans g3) I3⟩
theorem sg_setObj {x : Str} {px ps pos : Pos} {k e : Expr} {gk ge : Env → W D} {a : Addr} {m0 : W Unit} {kk : W γ} (i : Nat) (hk : E G X Wx k gk) (he : E G X Wx e ge) (hx : svAt ρ i = .o a) (hg : (bnd (ge ρ) fun v => bnd (gk ρ) fun k => stOb a k v) = m0) (hr : SG G X Wx rest ρ En kk)
    (hN : X.N[i]? = some x := by rfl) (hv : Vis X.env.scope x := by first | exact Or.inl rfl | exact Or.inr (Or.inl rfl) | exact Or.inr (Or.inr rfl)) (hd : (x == ("__debug__" : Str)) = false := by decide)
    (hcd : (x == ("__classdict__" : Str)) = false := by decide) (hs : swapsWithSole [.Subscript (.Name x px) k ps] e pos.line X.env = pure false := by rfl) (hw : swappedStores [.Subscript (.Name x px) k ps] e X.env = pure none := by rfl) (h1 : (assignEach [.Subscript (.Name x px) k ps] X.env).map (·.2) = [assign (.Subscript (.Name x px) k ps) X.env] := by rfl)
    (ha : ∀ v, assign (.Subscript (.Name x px) k ps) X.env v = (do
      let ov ← holding [v] (eval (.Name x px) X.env)
      let iv ← holding [v, ov] (eval k X.env)
      standAt ps
      holding [v, ov, iv] (setItem ov iv v)
      release [v, ov, iv] []) := by intro _; rfl) :
    SG G X Wx (.Assign [.Subscript (.Name x px) k ps] e pos :: rest) ρ En (bnd m0 fun _ => kk) :=
  sg_drop (s_setObj i hk he hN hv hd hcd hs hw h1 ha) (by
    unfold objAt
    rw [hx, ← hg]) hr
/-! ### objects as arguments -/
theorem v_obj {x : Str} {pos : Pos} {es : List Expr} {gs : Env → W (List SV)} (i : Nat) (hs : AV G X Wx es gs) (hN : X.N[i]? = some x := by rfl) (hv : Vis X.env.scope x := by first | exact Or.inl rfl | exact Or.inr (Or.inl rfl) | exact Or.inr (Or.inr rfl)) (hd : (x == ("__debug__" : Str)) = false := by decide)
    (hcd : (x == ("__classdict__" : Str)) = false := by decide) (hp : starEach (.Name x pos :: es) X.env = (false, eval (.Name x pos) X.env) :: starEach es X.env := by rfl) : AV G X Wx (.Name x pos :: es) (fun ρ => objAt ρ i fun a => bnd (gs ρ) fun xs => ret (.o a :: xs)) :=
  weakA (pa_cons (pe_var hN hv hd hcd) hs hp) fun σ H Q ⟨c, ρ, n, P, PX, I, q, hg, hx⟩ => by
    obtain ⟨a, e1, q⟩ := objAt_inv q
    have e2 : slot σ i = some (.ref a) := I.slots i _ e1
    exact ⟨.ref a, slot_some e2, c, ρ, n, fun ds k => P (.o a :: ds) k, PX, I, q, fun ds k2 us S2 H2 p2 g2 I2 r2 => hg (.o a :: ds) k2 (.ref a :: us) S2 H2 p2 g2 I2 ⟨_, us, rfl, rfl, r2⟩, hx⟩
theorem v_mkL {e : Expr} {es : List Expr} {g : Env → W (List D)} {gs : Env → W (List SV)} (hc : G.chg = true) (h : EO G X Wx e g) (hs : AV G X Wx es gs) (hp : starEach (e :: es) X.env = (false, eval e X.env) :: starEach es X.env := by rfl) :
    AV G X Wx (e :: es) (fun ρ => bnd (bnd (g ρ) mkL) fun a => bnd (gs ρ) fun xs => ret (.o a :: xs)) :=
  weakA (pa_cons h hs hp) fun σ H Q ⟨c, ρ, n, P, PX, I, q, hg, hx⟩ => tO.bnd (f := fun xs => bnd (mkL xs) fun a => bnd (gs ρ) fun ys => ret (SV.o a :: ys)) I q hx fun xs k a vs S' H' p g I' hx' e z r f => by
    obtain ⟨hsc, p⟩ := p
    have hp' : ¬ G.pent (c.to S') a := fun w => I'.penOld f.1.2.1 (.inl w)
    have I2 := SI.mkObj hc I' f (nd := .lst (xs.map .d)) ⟨vs, e, by rw [List.length_map]; exact z, reps_ob hsc r⟩ hp'
    exact ⟨c.to S', ρ, _, fun ds k => P (.o a :: ds) k, PX, I2, p a f.1.2.2, fun ds k2 us S2 H2 p2 g2 I3 r2 => hg (.o a :: ds) k2 (.ref a :: us) S2 H2 p2 (g.trans g2) I3 ⟨.ref a, us, rfl, rfl, r2⟩, hx'⟩
end
/-! ### an item of a list of one's own is set -/
section
variable {G : PenK} {X : Cx} {Wx : WX} {γ : Type} {En : Enz γ} {ρ : Env} {rest : List Stmt} {m : W γ}
def setLW (xs : List D) (k v : D) : W (List D) := match k with
  | .int j => (match ixN xs.length j with | some t => ret (xs.set t v) | none => stuck)
  | _ => stuck
theorem s_setL {x : Str} {px ps pos : Pos} {k e : Expr} {gk ge : Env → W D} (i : Nat) (hk : E G X Wx k gk) (he : E G X Wx e ge) (hN : X.N[i]? = some x := by rfl) (hv : Vis X.env.scope x := by first | exact Or.inl rfl | exact Or.inr (Or.inl rfl) | exact Or.inr (Or.inr rfl)) (hd : (x == ("__debug__" : Str)) = false := by decide)
    (hcd : (x == ("__classdict__" : Str)) = false := by decide) (hs : swapsWithSole [.Subscript (.Name x px) k ps] e pos.line X.env = pure false := by rfl) (hw : swappedStores [.Subscript (.Name x px) k ps] e X.env = pure none := by rfl) (h1 : (assignEach [.Subscript (.Name x px) k ps] X.env).map (·.2) = [assign (.Subscript (.Name x px) k ps) X.env] := by rfl)
    (ha : ∀ v, assign (.Subscript (.Name x px) k ps) X.env v = (do
      let ov ← holding [v] (eval (.Name x px) X.env)
      let iv ← holding [v, ov] (eval k X.env)
      standAt ps
      holding [v, ov, iv] (setItem ov iv v)
      release [v, ov, iv] []) := by intro _; rfl) :
    St1 G X Wx (.Assign [.Subscript (.Name x px) k ps] e pos) (fun ρ => ownAt ρ i fun xs => bnd (bnd (ge ρ) fun v => bnd (gk ρ) fun k => setLW xs k v) fun ys => ret (.nx (ρ.set i (.own ys)))) :=
  weakS (ps_asg he (pg_sub (pe_var hN hv hd hcd) hk set_list ha) hs hw h1) fun Dn σ H ⟨c, ρ, n, P, PX, I, q, hg, hx⟩ => by
    obtain ⟨xs, e1, q⟩ := ownAt_inv q
    obtain ⟨a, vs, e2, e3, z, r⟩ := I.slots i _ e1
    refine tE.bnd (α := Out) (P := P) (f := fun v => bnd (gk ρ) fun k => bnd (setLW xs k v) fun ys => ret (Out.nx (ρ.set i (.own ys)))) I q hx.x fun d k0 v S' H' p g I' hx' r' => ⟨.ref a, slot_some e2, tE.bnd (α := Out) (P := P) (f := fun k => bnd (setLW xs k d) fun ys => ret (Out.nx (ρ.set i (.own ys)))) I' p hx' fun kd k1 kv S2 H2 p2 g2 I2 hx2 rk => ?_⟩
    obtain ⟨a', vs', e4, e5, z2, r2⟩ := I2.slots i _ e1
    rw [e2] at e4
    cases e4
    have p2 : bnd (setLW xs kd d) (fun ys => ret (Out.nx (ρ.set i (.own ys)))) k1 P PX := p2
    unfold setLW at p2
    cases kd with
    | int j =>
      cases rk
      cases et : ixN xs.length j with
      | none =>
        simp only [et] at p2
        exact False.elim p2
      | some t =>
        simp only [et] at p2
        obtain ⟨I3, g3⟩ := I2.mut e1 e2 (ys := xs.set t d) (vs := vs'.set t v) (by rw [List.length_set]; exact z2) (Reps.set t r2 (Rep.grow g2 _ _ r'))
        exact ⟨a, vs', j, t, rfl, rfl, e5, by rw [r2.len]; exact et, hg.1 _ k1 σ _ _ p2 ((g.trans g2).trans g3) I3⟩
    | _ => exact False.elim p2
theorem sg_setL {x : Str} {px ps pos : Pos} {k e : Expr} {gk ge : Env → W D} {xs : List D} {m0 : W (List D)} {kk : List D → W γ} {ρ' : List D → Env} (i L : Nat) (hk : E G X Wx k gk) (he : E G X Wx e ge) (hx : ρ[i]? = some (.own xs)) (hg : (bnd (ge ρ) fun v => bnd (gk ρ) fun k => setLW xs k v) = m0) (hL : ρ.length = L) (hi : i < L) (hρ : ∀ a, ρ.set i (.own a) = ρ' a) (hr : ∀ a, SG G X Wx rest (ρ' a) En (kk a))
    (hN : X.N[i]? = some x := by rfl) (hv : Vis X.env.scope x := by first | exact Or.inl rfl | exact Or.inr (Or.inl rfl) | exact Or.inr (Or.inr rfl)) (hd : (x == ("__debug__" : Str)) = false := by decide)
    (hcd : (x == ("__classdict__" : Str)) = false := by decide) (hs : swapsWithSole [.Subscript (.Name x px) k ps] e pos.line X.env = pure false := by rfl) (hw : swappedStores [.Subscript (.Name x px) k ps] e X.env = pure none := by rfl) (h1 : (assignEach [.Subscript (.Name x px) k ps] X.env).map (·.2) = [assign (.Subscript (.Name x px) k ps) X.env] := by rfl)
    (ha : ∀ v, assign (.Subscript (.Name x px) k ps) X.env v = (do
      let ov ← holding [v] (eval (.Name x px) X.env)
      let iv ← holding [v, ov] (eval k X.env)
      standAt ps
      holding [v, ov, iv] (setItem ov iv v)
      release [v, ov, iv] []) := by intro _; rfl) :
    SG G X Wx (.Assign [.Subscript (.Name x px) k ps] e pos :: rest) ρ En (bnd m0 kk) :=
  sg_stmt (s_setL i hk he hN hv hd hcd hs hw h1 ha) (by
    unfold ownAt
    rw [hx, ← hg]) (own_inj (f := fun a => a) (lt_lit hL hi) fun _ _ h => h) fun a => by rw [hρ]; exact hr a
end
end PL

/-! The layer: x in a list of data of any depth. -/
namespace PL
open PySem PySem.Spec PyProof.Rows L2
def inDp (neg : Bool) (x y : D) : W D := match y with
  | .lst ys => grd (okD x = true ∧ okD (.lst ys) = true) (ret (.bl (if neg then !((pys ys).any fun z => PyData.eqv z (py x)) else (pys ys).any fun z => PyData.eqv z (py x))))
  | _ => stuck
section
variable {G : PenK} {X : Cx} {Wx : WX}
theorem v2_inDp : V2 G X Wx (inDp false) (rInD X.K) := by
  intro c σ ρ H n P PX d e v w Q I rd re q hg hx
  cases e with
  | lst ys =>
    obtain ⟨⟨h1, h2⟩, q⟩ := q
    have r2 := Rep.dp (.lst ys) w (SeqAt.canLay_of_shaped h2) re
    exact ⟨py d, pys ys, Rep.dp d v (SeqAt.canLay_of_shaped h1) rd, r2, h1, h2, hg.at (d := .bl _) q I rfl⟩
  | _ => exact q.elim
theorem v2_notInDp : V2 G X Wx (inDp true) (rNotInD X.K) := by
  intro c σ ρ H n P PX d e v w Q I rd re q hg hx
  cases e with
  | lst ys =>
    obtain ⟨⟨h1, h2⟩, q⟩ := q
    have r2 := Rep.dp (.lst ys) w (SeqAt.canLay_of_shaped h2) re
    exact ⟨py d, pys ys, Rep.dp d v (SeqAt.canLay_of_shaped h1) rd, r2, h1, h2, hg.at (d := .bl _) q I rfl⟩
  | _ => exact q.elim
theorem cm_inDp (hu : X.A.units + 65 < cLine) : Cm G X Wx .In (inDp false) := ⟨_, op_inD hu, v2_inDp⟩
theorem cm_notInDp (hu : X.A.units + 65 < cLine) : Cm G X Wx .NotIn (inDp true) := ⟨_, op_notInD hu, v2_notInDp⟩
variable {γ : Type} {En : Enz γ} {ρ ρ' : Env} {rest : List Stmt} {m : W γ}
/-- a, b = e, where both are plain -/
theorem sg_asg2P {tg e : Expr} {pos : Pos} {g : Env → W D} {z1 z2 : D} (i j L : Nat) (h : E G X Wx e g) (ht : PTg X tg (.tp [.nm i, .nm j])) (hg : bnd (g ρ) unp2 = ret (z1, z2)) (hL : ρ.length = L) (hi : i < L) (hj : j < L) (hij : j ≠ i) (hρ : (ρ.set i (.d z1)).set j (.d z2) = ρ') (hr : SG G X Wx rest ρ' En m)
    (h1 : (assignEach [tg] X.env).map (·.2) = [assign tg X.env] := by rfl) (hs : swapsWithSole [tg] e pos.line X.env = pure false := by rfl) (hw : swappedStores [tg] e X.env = pure none := by rfl) : SG G X Wx (.Assign [tg] e pos :: rest) ρ En m :=
  sg_asg2 (m0 := ret ()) (f1 := fun _ => z1) (f2 := fun _ => z2) (k := fun _ => m) (ρ' := fun _ => ρ') i j L h ht hg (fun _ _ _ _ => rfl) hL hi hj hij (fun _ => hρ) (fun _ => hr) h1 hs hw
end
end PL

/-! Plain laws with objects: GenM S m c Q says that m, begun where S holds of the objects, ends under Q with S, after at most c draws. -/
namespace PL
open PySem PySem.Spec L2
def GenM {α : Type} (S : (Addr → Option Nd) → Prop) (m : W α) (c : Nat) (Q : α → Prop) : Prop := ∀ (n : Nt) (P : α → Nt → Prop) (PX : Exc → Nt → Prop), n.n + c ≤ drawMax → S n.μ → (∀ a (k : Nt), Q a → n.n ≤ k.n → k.n ≤ n.n + c → S k.μ → P a k) → m n P PX
section
variable {α β J γ : Type} {S : (Addr → Option Nd) → Prop}
theorem Gen.m {m : W α} {c : Nat} {Q : α → Prop} (h : Gen m c Q) : GenM S m c Q := fun n P PX hn hs k => h n P PX hn fun a j q h1 h2 => k a ⟨j, n.μ⟩ q h1 h2 hs
theorem GenM.ret {a : α} {Q : α → Prop} (h : Q a) : GenM S (PL.ret a) 0 Q := (Gen.ret h).m
theorem GenM.bind {m : W α} {f : α → W β} {c d : Nat} {R : α → Prop} {Q : β → Prop} (h : GenM S m c R) (hf : ∀ a, R a → GenM S (f a) d Q) : GenM S (PL.bnd m f) (c + d) Q := fun n P PX hn hs k =>
  h n _ PX (by omega) hs fun a j q h1 h2 hs2 => hf a q j P PX (by omega) hs2 fun b i r h3 h4 hs3 => k b i r (Nat.le_trans h1 h3) (by omega) hs3
theorem GenM.le {m : W α} {c d : Nat} {Q R : α → Prop} (h : GenM S m c Q) (hc : c ≤ d) (hq : ∀ a, Q a → R a) : GenM S m d R := fun n P PX hn hs k => h n P PX (by omega) hs fun a j q h1 h2 h3 => k a j (hq a q) h1 (by omega) h3
theorem GenM.up {m : W α} {c d : Nat} {Q : α → Prop} (h : GenM S m c Q) (hc : c ≤ d) : GenM S m d Q := h.le hc fun _ q => q
theorem GenM.to {m : W α} {c : Nat} {Q R : α → Prop} (h : GenM S m c Q) (hq : ∀ a, Q a → R a) : GenM S m c R := h.le (Nat.le_refl _) hq
theorem GenM.dr {b : Int} {f : Int → W β} {c : Nat} {Q : β → Prop} (h0 : 0 < b) (h1 : b < 1073741824) (k : ∀ r : Int, 0 ≤ r → r < b → GenM S (f r) c Q) : GenM S (PL.bnd (drw b) f) (1 + c) Q :=
  GenM.bind (R := fun r => 0 ≤ r ∧ r < b) (Gen.dr0 (c := 0) h0 h1 fun r a b => ⟨a, b⟩).m fun r ⟨a, b⟩ => k r a b
theorem GenM.cond {b : Bool} {m m' : W α} {c d : Nat} {Q : α → Prop} (h1 : b = true → GenM S m c Q) (h2 : b = false → GenM S m' d Q) : GenM S (if b = true then m else m') (Nat.max c d) Q := by
  cases b with
  | true => rw [if_pos rfl]; exact (h1 rfl).up (Nat.le_max_left _ _)
  | false => rw [if_neg (by decide)]; exact (h2 rfl).up (Nat.le_max_right _ _)
theorem GenM.room {xs : List D} {m : W α} {c : Nat} {Q : α → Prop} (h : xs.length < 1000000) (k : GenM S m c Q) : GenM S (roomL xs m) c Q := by rw [room_pos h]; exact k
theorem GenM.forI {bd : α → J → W (Step J γ)} {k : J → W γ} {c d N : Nat} {I : Nat → J → Prop} {Q : γ → Prop} : ∀ {xs : List α} {i : Nat} {j : J}, xs.length + i ≤ N → (∀ x ∈ xs, ∀ i j, i < N → I i j → GenM S (bd x j) c fun o => ∃ j', o = .go j' ∧ I (i + 1) j') → (∀ i j, i ≤ N → I i j → GenM S (k j) d Q) → I i j → GenM S (forT bd k xs j) (c * xs.length + d) Q
  | [], i, j, hn, hb, hk, h0 => (hk i j (by simpa using hn) h0).up (by omega)
  | x :: xs, i, j, hn, hb, hk, h0 => by
    have hn2 : xs.length + 1 + i ≤ N := hn
    refine (GenM.bind (hb x List.mem_cons_self i j (by omega) h0) (d := c * xs.length + d) fun o ⟨j', e, h1⟩ => ?_).up (by rw [List.length_cons, Nat.mul_add]; omega)
    subst e
    exact GenM.forI (by omega) (fun y hy => hb y (List.mem_cons_of_mem _ hy)) hk h1
/-- a list of two numbers -/
def Two (a : Addr) (μ : Addr → Option Nd) : Prop := ∃ x y : Int, μ a = some (.lst [.d (.int x), .d (.int y)])
theorem two_ix {a : Addr} (i : Nat) (h : i < 2) : GenM (Two a) (ixOb a (.int i)) 0 fun d => ∃ z : Int, d = .int z := fun n P PX _ hs k => by
  obtain ⟨x, y, e⟩ := hs
  refine ⟨[.d (.int x), .d (.int y)], (i : Int), if i = 0 then .int x else .int y, by unfold lstM; rw [e], rfl, ?_, k _ n ?_ (Nat.le_refl _) (Nat.le_refl _) ⟨x, y, e⟩⟩
  · have : i = 0 ∨ i = 1 := by omega
    rcases this with rfl | rfl
    · exact atI_nat rfl
    · exact atI_nat rfl
  · have : i = 0 ∨ i = 1 := by omega
    rcases this with rfl | rfl
    · exact ⟨x, rfl⟩
    · exact ⟨y, rfl⟩
theorem two_st {a : Addr} (i : Nat) (h : i < 2) (z : Int) : GenM (Two a) (stOb a (.int i) (.int z)) 0 fun _ => True := fun n P PX _ hs k => by
  obtain ⟨x, y, e⟩ := hs
  have : i = 0 ∨ i = 1 := by omega
  rcases this with rfl | rfl
  · exact ⟨[.d (.int x), .d (.int y)], 0, 0, by unfold lstM; rw [e], rfl, rfl, rfl, k () _ trivial (Nat.le_refl _) (Nat.le_refl _) ⟨z, y, setM_same⟩⟩
  · exact ⟨[.d (.int x), .d (.int y)], 1, 1, by unfold lstM; rw [e], rfl, rfl, rfl, k () _ trivial (Nat.le_refl _) (Nat.le_refl _) ⟨x, z, setM_same⟩⟩
theorem two_mk {x y : Int} {f : Addr → W α} {c : Nat} {Q : α → Prop} (h : ∀ a, GenM (Two a) (f a) c Q) : GenM (fun _ => True) (bnd (mkL [.int x, .int y]) f) c Q := fun n P PX hn _ k =>
  ⟨rfl, fun a _ => h a ⟨n.n, setM n.μ a (.lst [.d (.int x), .d (.int y)])⟩ P PX hn ⟨x, y, setM_same⟩ fun b j q h1 h2 _ => k b j q h1 h2 trivial⟩
end
end PL

/-! Dicts laid over one another, as plain data. -/
namespace PL
open PySem PySem.Spec L2
def KF (ss : List Str) (f : Str → D) : List (Key × D) := ss.map fun s => (.inr s, f s)
def PF (ss : List Str) (f : Str → D) : List D := ss.map fun s => .tup [.str s, f s]
theorem pairsL_PF (ss : List Str) (f : Str → D) : pairsL (PF ss f) = some (KF ss f) := by
  induction ss with
  | nil => rfl
  | cons s ss ih =>
    show (match keyD (.str s), pairsL (PF ss f) with | some kk, some l => some ((kk, f s) :: l) | _, _ => none) = _
    rw [ih]
    rfl
theorem mergeD_new : ∀ (more acc : List (Key × D)), ((acc ++ more).map (·.1)).Nodup → mergeD acc more = acc ++ more
  | [], acc, _ => (List.append_nil _).symm
  | (k, x) :: r, acc, h => by
    show mergeD (putD acc k x) r = _
    have hk : k ∉ acc.map (·.1) := by
      rw [List.map_append, List.map_cons, List.nodup_append] at h
      exact fun z => h.2.2 k z k List.mem_cons_self rfl
    rw [putD_not hk, mergeD_new r (acc ++ [(k, x)]) (by simpa using h)]
    simp
theorem KF_keys (ss : List Str) (f : Str → D) : (KF ss f).map (·.1) = ss.map .inr := by
  unfold KF
  rw [List.map_map]
  rfl
theorem KF_nodup {ss : List Str} {f : Str → D} (h : ss.Nodup) : ((KF ss f).map (·.1)).Nodup := by
  rw [KF_keys]
  exact List.pairwise_map.mpr (h.imp fun h e => h (Sum.inr.inj e))
theorem dictW_PF {ss : List Str} {f : Str → D} (h : ss.Nodup) : dictW (.tup (PF ss f)) = ret (KF ss f) := by
  show bnd (optW (pairsL (PF ss f))) _ = _
  rw [pairsL_PF]
  show bnd (ret (KF ss f)) _ = _
  rw [bnd_ret, mergeD_new _ [] (by simpa using KF_nodup h)]
  rfl
theorem valD_cons (a : Key) (y : D) (r : List (Key × D)) (k : Key) : valD ((a, y) :: r) k = if a = k then some y else valD r k := by
  unfold valD
  rw [List.find?_cons]
  by_cases h : a = k <;> simp [h]
theorem valD_none {j : List (Key × D)} {k : Key} (h : k ∉ j.map (·.1)) : valD j k = none := by
  induction j with
  | nil => rfl
  | cons p r ih =>
    obtain ⟨a, y⟩ := p
    rw [List.map_cons, List.mem_cons, not_or] at h
    rw [valD_cons, if_neg fun e => h.1 e.symm, ih h.2]
theorem valD_mem {j : List (Key × D)} {k : Key} (h : k ∈ j.map (·.1)) : ∃ x, valD j k = some x := by
  induction j with
  | nil => cases h
  | cons p r ih =>
    obtain ⟨a, y⟩ := p
    rw [valD_cons]
    by_cases e : a = k
    · exact ⟨y, if_pos e⟩
    · rw [if_neg e]
      exact ih ((List.mem_cons.mp h).resolve_left fun z => e z.symm)
theorem valD_set (k : Key) (x : D) : ∀ (j : List (Key × D)) (k' : Key), valD (setK1 k x j) k' = if k' = k then (valD j k).map fun _ => x else valD j k'
  | [], k' => by
    show none = _
    split <;> rfl
  | (a, y) :: r, k' => by
    have ih := valD_set k x r k'
    unfold setK1
    by_cases h : a = k
    · subst h
      rw [if_pos rfl, valD_cons, valD_cons, valD_cons, ih, if_pos rfl]
      by_cases e : k' = a
      · subst e
        rw [if_pos rfl, if_pos rfl]
        rfl
      · rw [if_neg fun z => e z.symm, if_neg e, if_neg e, if_neg fun z => e z.symm]
    · rw [if_neg h, valD_cons, valD_cons, valD_cons, ih, if_neg h]
      by_cases e : a = k'
      · rw [if_pos e, if_pos e, if_neg fun z => h (e.trans z)]
      · rw [if_neg e, if_neg e]
theorem valD_snoc {j : List (Key × D)} {k : Key} {x : D} (h : k ∉ j.map (·.1)) (k' : Key) : valD (j ++ [(k, x)]) k' = if k' = k then some x else valD j k' := by
  induction j with
  | nil =>
    rw [List.nil_append, valD_cons]
    by_cases e : k' = k
    · rw [if_pos e, if_pos e.symm]
    · rw [if_neg e, if_neg fun z => e z.symm]
  | cons p r ih =>
    obtain ⟨a, y⟩ := p
    rw [List.map_cons, List.mem_cons, not_or] at h
    rw [List.cons_append, valD_cons, valD_cons, ih h.2]
    by_cases e : a = k'
    · rw [if_pos e, if_pos e, if_neg fun z => h.1 (e.trans z).symm]
    · rw [if_neg e, if_neg e]
theorem valD_put (j : List (Key × D)) (k : Key) (x : D) (k' : Key) : valD (putD j k x) k' = if k' = k then some x else valD j k' := by
  by_cases h : k ∈ j.map (·.1)
  · rw [putD_has h, valD_set]
    obtain ⟨y, e⟩ := valD_mem h
    rw [e]
    rfl
  · rw [putD_not h, valD_snoc h]
theorem valD_merge : ∀ (b a : List (Key × D)) (k : Key), (b.map (·.1)).Nodup → valD (mergeD a b) k = (valD b k).or (valD a k)
  | [], a, k, _ => rfl
  | (k0, x) :: r, a, k, h => by
    rw [List.map_cons, List.nodup_cons] at h
    show valD (mergeD (putD a k0 x) r) k = _
    rw [valD_merge r _ k h.2, valD_put, valD_cons]
    by_cases e : k = k0
    · subst e
      rw [valD_none h.1, if_pos rfl, if_pos rfl]
      rfl
    · rw [if_neg e, if_neg fun z => e z.symm]
theorem DI.merge {v : D → Bool} : ∀ {b a : List (Key × D)}, DI v a → (∀ kv ∈ b, ∃ s, kv.1 = .inr s ∧ wordB (.str s) = true ∧ v kv.2 = true) → DI v (mergeD a b) ∧ (mergeD a b).length ≤ a.length + b.length
  | [], a, h, _ => ⟨h, Nat.le_refl _⟩
  | (k, x) :: r, a, h, hb => by
    obtain ⟨s, e, hs, hx⟩ := hb (k, x) List.mem_cons_self
    have e : k = .inr s := e
    subst e
    obtain ⟨h1, h2⟩ := DI.merge (a := putD a (.inr s) x) (h.put hs hx) fun kv hk => hb kv (List.mem_cons_of_mem _ hk)
    refine ⟨h1, Nat.le_trans h2 ?_⟩
    have := putD_len a (.inr s) x
    rw [List.length_cons]
    omega
theorem valD_KF (ss : List Str) (f : Str → D) (s : Str) : valD (KF ss f) (.inr s) = if s ∈ ss then some (f s) else none := by
  induction ss with
  | nil => rfl
  | cons a r ih =>
    show valD ((.inr a, f a) :: KF r f) _ = _
    rw [valD_cons, ih]
    by_cases e : a = s
    · subst e
      simp
    · rw [if_neg fun z => e (Sum.inr.inj z)]
      have e' : ¬ s = a := fun z => e z.symm
      simp [List.mem_cons, e']
theorem keysS_KF (ss : List Str) (f : Str → D) : keysS (KF ss f) = ss := by
  unfold keysS KF
  rw [List.map_map]
  exact List.map_id _
theorem DI.kf {v : D → Bool} {ss : List Str} {f : Str → D} (h : ss.Nodup) (hs : ∀ s ∈ ss, wordB (.str s) = true ∧ v (f s) = true) : DI v (KF ss f) :=
  ⟨fun kv hk => by
    obtain ⟨s, h1, rfl⟩ := List.mem_map.mp hk
    exact ⟨s, rfl, hs s h1⟩, KF_nodup h⟩
theorem mem_keysS {v : D → Bool} {j : List (Key × D)} (h : DI v j) (s : Str) : s ∈ keysS j ↔ (valD j (.inr s)).isSome = true := by
  constructor
  · intro hs
    obtain ⟨x, e, _⟩ := valD_some h hs
    rw [e]
    rfl
  · intro hs
    refine Classical.byContradiction fun q => ?_
    have : Sum.inr s ∉ j.map (·.1) := fun z => by
      obtain ⟨kv, hk, e⟩ := List.mem_map.mp z
      exact q (List.mem_map.mpr ⟨kv, hk, by rw [e]; rfl⟩)
    rw [valD_none this] at hs
    cases hs
theorem sortT_congr {a b : List Str} (h : a.Perm b) : sortT a = sortT b :=
  ((sortT_perm a).trans (h.trans (sortT_perm b).symm)).eq_of_pairwise (fun a b _ _ h1 h2 => leS_anti a b h1 h2) (sortT_pw a) (sortT_pw b)
theorem sortT_id {a : List Str} (h : a.Pairwise fun x y => leS x y = true) : sortT a = a :=
  (sortT_perm a).eq_of_pairwise (fun a b _ _ h1 h2 => leS_anti a b h1 h2) (sortT_pw a) h
theorem sortT_nodup {a : List Str} (h : a.Nodup) : (sortT a).Nodup := (sortT_perm a).nodup_iff.mpr h
theorem pairsOf_PF (j : List (Key × D)) : pairsOf j = PF (sortT (keysS j)) (valS j) := rfl
theorem PF_congr {ss : List Str} {f g : Str → D} (h : ∀ s ∈ ss, f s = g s) : PF ss f = PF ss g := List.map_congr_left fun s hs => by rw [h s hs]
theorem pairsOf_congr {v w : D → Bool} {j j' : List (Key × D)} (h : DI v j) (h' : DI w j') (e : ∀ s, valD j (.inr s) = valD j' (.inr s)) : pairsOf j = pairsOf j' := by
  have p : (keysS j).Perm (keysS j') := (List.perm_ext_iff_of_nodup (keysS_nodup h) (keysS_nodup h')).mpr fun s => by rw [mem_keysS h, mem_keysS h', e]
  rw [pairsOf_PF, pairsOf_PF, sortT_congr p]
  exact PF_congr fun s _ => by unfold valS; rw [e]
/-- the dict of a store's pairs -/
def sortK (j : List (Key × D)) : List (Key × D) := KF (sortT (keysS j)) (valS j)
theorem dictW_of {v : D → Bool} {j : List (Key × D)} (h : DI v j) : dictW (.tup (pairsOf j)) = ret (sortK j) := dictW_PF (sortT_nodup (keysS_nodup h))
theorem sortK_val {v : D → Bool} {j : List (Key × D)} (h : DI v j) (s : Str) : valD (sortK j) (.inr s) = valD j (.inr s) := by
  unfold sortK
  rw [valD_KF]
  by_cases q : s ∈ keysS j
  · obtain ⟨x, e, _⟩ := valD_some h q
    rw [if_pos (sortT_mem.mpr q), e]
    unfold valS
    rw [e]
    rfl
  · rw [if_neg fun z => q (sortT_mem.mp z)]
    cases e : valD j (.inr s) with
    | none => rfl
    | some x => exact absurd ((mem_keysS h s).mpr (by rw [e]; rfl)) q
theorem sortK_DI {v : D → Bool} {j : List (Key × D)} (h : DI v j) : DI v (sortK j) :=
  DI.kf (sortT_nodup (keysS_nodup h)) fun s hs => by
    obtain ⟨x, e, hx⟩ := valD_some h (sortT_mem.mp hs)
    refine ⟨keysS_word h (sortT_mem.mp hs), ?_⟩
    unfold valS
    rw [e]
    exact hx
theorem sortK_len (j : List (Key × D)) : (sortK j).length = j.length := by
  unfold sortK KF keysS
  rw [List.length_map, sortT_len, List.length_map]
theorem sortK_keys (j : List (Key × D)) : keysS (sortK j) = sortT (keysS j) := keysS_KF _ _
theorem overW_ok {a b : List (Key × D)} (h : a.length + b.length ≤ 1000000) : overW a b = ret (mergeD (mergeD [] a) b) := grd_pos (by rw [sizeLine_eq]; omega) _
theorem merge_nil {v : D → Bool} {a : List (Key × D)} (h : DI v a) : mergeD [] a = a := mergeD_new _ [] (by simpa using h.2)
/-- what is not None -/
def dropN (j : List (Key × D)) : List (Key × D) := j.filter fun kv => !isNone kv.2
theorem dropN_DI {v w : D → Bool} {j : List (Key × D)} (h : DI v j) (hw : ∀ x, v x = true → isNone x = false → w x = true) : DI w (dropN j) :=
  ⟨fun kv hk => by
    obtain ⟨h1, h2⟩ := List.mem_filter.mp hk
    obtain ⟨s, a, b, c⟩ := h.1 kv h1
    exact ⟨s, a, b, hw _ c (by simpa using h2)⟩, by
    have := h.2
    unfold dropN
    exact List.Pairwise.sublist (List.Sublist.map _ List.filter_sublist) this⟩
theorem dropN_val : ∀ {j : List (Key × D)}, (j.map (·.1)).Nodup → ∀ k, valD (dropN j) k = (valD j k).filter fun x => !isNone x
  | [], _, _ => rfl
  | (a, y) :: r, h, k => by
    rw [List.map_cons, List.nodup_cons] at h
    have ih := dropN_val h.2 k
    rw [valD_cons]
    by_cases e : a = k
    · subst e
      rw [if_pos rfl]
      unfold dropN
      rw [List.filter_cons]
      cases q : isNone y with
      | true =>
        simp only [q, Bool.not_true, Bool.false_eq_true, if_false, Option.filter_some]
        exact (ih.trans (by rw [valD_none h.1]; rfl))
      | false =>
        simp only [q, Bool.not_false, if_true, Option.filter_some]
        rw [valD_cons, if_pos rfl]
    · rw [if_neg e]
      unfold dropN
      rw [List.filter_cons]
      split
      · rw [valD_cons, if_neg e]
        exact ih
      · exact ih
theorem pairsOf_dropN {v : D → Bool} {j : List (Key × D)} (h : DI v j) : pairsOf (dropN j) = PF ((sortT (keysS j)).filter fun s => !isNone (valS j s)) (valS j) := by
  have hd : DI (fun _ => true) (dropN j) := dropN_DI h fun _ _ _ => rfl
  have ev : ∀ s, valD (dropN j) (.inr s) = (valD j (.inr s)).filter fun x => !isNone x := fun s => dropN_val h.2 _
  have p : (keysS (dropN j)).Perm ((sortT (keysS j)).filter fun s => !isNone (valS j s)) := by
    refine (List.perm_ext_iff_of_nodup (keysS_nodup hd) ((sortT_nodup (keysS_nodup h)).filter _)).mpr fun s => ?_
    rw [mem_keysS hd, ev, List.mem_filter, sortT_mem, mem_keysS h]
    unfold valS
    cases valD j (.inr s) with
    | none => simp
    | some x => cases q : isNone x <;> simp [Option.filter, q]
  rw [pairsOf_PF, sortT_congr p, sortT_id ((sortT_pw _).filter _)]
  refine PF_congr fun s hs => ?_
  obtain ⟨h1, h2⟩ := List.mem_filter.mp hs
  unfold valS at h2 ⊢
  rw [ev]
  cases q : valD j (.inr s) with
  | none => rfl
  | some x =>
    rw [q] at h2
    have h2 : (!isNone x) = true := h2
    simp [Option.filter, h2]
end PL

/-! Plain: data without bools and dicts, sorted items, entries dropped, words by letters, stores over known keys. -/
namespace PL
open PySem PySem.Spec L2
/-! ### data that is equal just when it is the same -/
inductive Pl : D → Prop
  | non : Pl .non
  | int (i : Int) : Pl (.int i)
  | str {s : Str} (h : okD (.str s) = true) : Pl (.str s)
  | lst {xs : List D} (h : ∀ x ∈ xs, Pl x) : Pl (.lst xs)
  | tup {xs : List D} (h : ∀ x ∈ xs, Pl x) : Pl (.tup xs)
theorem pys_lay : ∀ {xs : List D}, (∀ x ∈ xs, (py x).canLay0 = true) → PyData.canLayAll0 (pys xs) = true
  | [], _ => by simp [pys, PyData.canLayAll0]
  | x :: xs, h => by
    have := pys_lay (xs := xs) fun y hy => h y (List.mem_cons_of_mem _ hy)
    simp [pys, PyData.canLayAll0, h x List.mem_cons_self, this]
theorem Pl.lay : ∀ {x : D}, Pl x → (py x).canLay0 = true
  | _, .non => by simp [py, PyData.canLay0]
  | _, .int i => by simp [py, PyData.canLay0]
  | _, .str h => okD_lay h
  | _, .lst h => by
    have := pys_lay fun x hx => (h x hx).lay
    simp [py, PyData.canLay0, this]
  | _, .tup h => by
    have := pys_lay fun x hx => (h x hx).lay
    simp [py, PyData.canLay0, this]
theorem eqvs_iff : ∀ {xs ys : List D}, (∀ x ∈ xs, ∀ y ∈ ys, PyData.eqv (py x) (py y) = true ↔ x = y) → (PyData.eqvAll (pys xs) (pys ys) = true ↔ xs = ys)
  | [], [], _ => by simp [pys, PyData.eqvAll]
  | [], _ :: _, _ => by simp [pys, PyData.eqvAll]
  | _ :: _, [], _ => by simp [pys, PyData.eqvAll]
  | x :: xs, y :: ys, h => by
    have ih := eqvs_iff (xs := xs) (ys := ys) fun a ha b hb => h a (List.mem_cons_of_mem _ ha) b (List.mem_cons_of_mem _ hb)
    simp only [pys, PyData.eqvAll, Bool.and_eq_true, ih, h x List.mem_cons_self y List.mem_cons_self, List.cons.injEq]
theorem Pl.eqv_iff : ∀ {x : D}, Pl x → ∀ {y : D}, Pl y → (PyData.eqv (py x) (py y) = true ↔ x = y)
  | _, .non, _, hy => by cases hy <;> simp [py, PyData.eqv]
  | _, .int i, _, hy => by cases hy <;> simp [py, PyData.eqv]
  | _, .str h, _, hy => by cases hy <;> simp [py, PyData.eqv]
  | _, .lst h, _, hy => by
    cases hy with
    | lst h2 =>
      have := eqvs_iff fun x hx y hy => (h x hx).eqv_iff (h2 y hy)
      simp only [py, PyData.eqv, this, D.lst.injEq]
    | _ => simp [py, PyData.eqv]
  | _, .tup h, _, hy => by
    cases hy with
    | tup h2 =>
      have := eqvs_iff fun x hx y hy => (h x hx).eqv_iff (h2 y hy)
      simp only [py, PyData.eqv, this, D.tup.injEq]
    | _ => simp [py, PyData.eqv]
open Classical in
theorem Pl.eqv {x y : D} (hx : Pl x) (hy : Pl y) : PyData.eqv (py x) (py y) = decide (x = y) := by
  have h := hx.eqv_iff hy
  by_cases e : x = y
  · rw [h.mpr e]; exact (decide_eq_true e).symm
  · rw [Bool.eq_false_iff.mpr fun z => e (h.mp z)]; exact (decide_eq_false e).symm
/-- data of which repr and == can speak -/
structure Gd (k : Nat) (x : D) : Prop where
  pl : Pl x
  dp : (py x).depth ≤ k
theorem Gd.ok {k : Nat} {x : D} (h : Gd k x) (hk : k ≤ 63) : okD x = true := by
  unfold okD SeqAt.shaped
  rw [h.pl.lay]
  have := h.dp
  simp
  omega
theorem Gd.up {k j : Nat} {x : D} (h : Gd k x) (hk : k ≤ j) : Gd j x := ⟨h.pl, Nat.le_trans h.dp hk⟩
theorem Gd.tup {k : Nat} {xs : List D} (h : ∀ x ∈ xs, Gd k x) : Gd (k + 1) (.tup xs) :=
  ⟨.tup fun x hx => (h x hx).pl, by simp only [py, PyData.depth]; exact Nat.succ_le_succ (depths_le.mpr fun x hx => (h x hx).dp)⟩
theorem Gd.lst {k : Nat} {xs : List D} (h : ∀ x ∈ xs, Gd k x) : Gd (k + 1) (.lst xs) :=
  ⟨.lst fun x hx => (h x hx).pl, by simp only [py, PyData.depth]; exact Nat.succ_le_succ (depths_le.mpr fun x hx => (h x hx).dp)⟩
theorem Gd.int {k : Nat} {i : Int} : Gd k (.int i) := ⟨.int i, by simp [py, PyData.depth]⟩
theorem Gd.non {k : Nat} : Gd k .non := ⟨.non, by simp [py, PyData.depth]⟩
theorem Gd.str {k : Nat} {s : Str} (h : okD (.str s) = true) : Gd k (.str s) := ⟨.str h, by simp [py, PyData.depth]⟩
open Classical in
theorem eqB_gd {k : Nat} {x y : D} (hx : Gd k x) (hy : Gd k y) (hk : k ≤ 63) : eqB x y = ret (decide (x = y)) := by
  unfold eqB
  rw [grd_pos (.inl ⟨hx.ok hk, hy.ok hk⟩), hx.pl.eqv hy.pl]
open Classical in
theorem neB_gd {k : Nat} {x y : D} (hx : Gd k x) (hy : Gd k y) (hk : k ≤ 63) : neB x y = ret (!decide (x = y)) := by
  unfold neB
  rw [grd_pos (.inl ⟨hx.ok hk, hy.ok hk⟩), hx.pl.eqv hy.pl]
theorem word_ok {s : Str} (h : wordB (.str s) = true) : okD (.str s) = true := by
  have z : Sz 8 0 (.str s) := IsW.ok ⟨s, rfl, h⟩
  cases z.1 with
  | str h => exact h
/-! ### sorted(list(d.items())) -/
def intD0 : D → Int
  | .int i => i
  | _ => 0
theorem numB_int {x : D} (h : numB x = true) : x = .int (intD0 x) := by
  cases x with
  | int i => rfl
  | _ => cases h
def siK (j : List (Key × D)) : List (Str × Int) := j.map fun kv => (keyS kv.1, intD0 kv.2)
theorem items_si {j : List (Key × D)} (h : DI numB j) : itemsL j = (siK j).map siD := by
  unfold itemsL siK
  rw [List.map_map]
  refine List.map_congr_left fun kv hk => ?_
  obtain ⟨s, a, _, c⟩ := h.1 kv hk
  show D.tup [keyV kv.1, kv.2] = .tup [.str (keyS kv.1), .int (intD0 kv.2)]
  rw [a, ← numB_int c]
  rfl
theorem valD_of {v : D → Bool} : ∀ {j : List (Key × D)}, DI v j → ∀ kv ∈ j, valD j kv.1 = some kv.2
  | [], _, _, h => nomatch h
  | (a, y) :: r, h, kv, hk => by
    have h2 := h.2
    rw [List.map_cons, List.nodup_cons] at h2
    rw [valD_cons]
    rcases List.mem_cons.mp hk with rfl | hk
    · rw [if_pos rfl]
    · rw [if_neg fun e : a = kv.1 => h2.1 (by show a ∈ _; rw [e]; exact List.mem_map.mpr ⟨kv, hk, rfl⟩)]
      exact valD_of (j := r) ⟨fun kv hk => h.1 kv (List.mem_cons_of_mem _ hk), h2.2⟩ kv hk
theorem siK_valS {j : List (Key × D)} (h : DI numB j) : siK j = (keysS j).map fun s => (s, intD0 (valS j s)) := by
  unfold siK keysS
  rw [List.map_map]
  refine List.map_congr_left fun kv hk => ?_
  obtain ⟨s, a, _, _⟩ := h.1 kv hk
  show (keyS kv.1, intD0 kv.2) = (keyS kv.1, intD0 (valS j (keyS kv.1)))
  have e := valD_of h kv hk
  unfold valS
  rw [a] at e ⊢
  show (s, intD0 kv.2) = (s, intD0 ((valD j (.inr s)).getD .non))
  rw [e]
  rfl
theorem sortSI_pairs {j : List (Key × D)} (h : DI numB j) : (sortSI (siK j)).map siD = pairsOf j := by
  have e : sortSI (siK j) = (sortT (keysS j)).map fun s => (s, intD0 (valS j s)) := by
    refine sortSI_uniq (by rw [siK_valS h]; exact (sortT_perm _).map _) (List.pairwise_map.mpr ((sortT_lt (keysS_nodup h)).imp fun {a b} hab => ?_))
    have lt : a.cps.toList < b.cps.toList := of_decide_eq_true hab
    rw [lexLe_iff]
    rintro (z | ⟨z, _⟩)
    · exact List.lt_asymm lt z
    · have z : b = a := z
      rw [z] at lt
      exact List.lt_irrefl _ lt
  rw [e, List.map_map]
  refine List.map_congr_left fun s hs => ?_
  obtain ⟨x, ex, hx⟩ := valD_some h (sortT_mem.mp hs)
  have ev : valS j s = x := by unfold valS; rw [ex]; rfl
  show D.tup [.str s, .int (intD0 (valS j s))] = .tup [.str s, valS j s]
  rw [ev, ← numB_int hx]
theorem items_sorted {j : List (Key × D)} (h : DI numB j) (hl : j.length ≤ 1000000) : (bnd (itemsW j) fun pairs => bnd (sortGW (.lst pairs)) fun xs1 => ret (.tup xs1) : W D) = ret (.tup (pairsOf j)) := by
  have hs : ∀ kv ∈ j, ∀ s, kv.1 = .inr s → s.length ≤ sizeLine := fun kv hk t et => by
    obtain ⟨s, a, b, _⟩ := h.1 kv hk
    rw [a] at et
    cases et
    have := word_len b
    rw [sizeLine_eq]
    omega
  unfold itemsW
  rw [grd_pos ⟨by rw [sizeLine_eq]; omega, hs⟩, bnd_ret]
  show bnd (bnd (optW (siL (itemsL j))) _) _ = _
  rw [items_si h, siL_siD]
  show bnd (bnd (ret _) _) _ = _
  rw [bnd_ret, bnd_ret, sortSI_pairs h]
/-! ### entries, differences -/
def vg (g : Bool) (y : D) : Bool := (g && isNone y) || numB y
section
variable {v : D → Bool} {a b : List (Key × D)}
theorem sort_over (ha : DI v a) (hb : DI v b) : DI v (mergeD (sortK a) (sortK b)) ∧ (mergeD (sortK a) (sortK b)).length ≤ a.length + b.length ∧ ∀ s, valD (mergeD (sortK a) (sortK b)) (.inr s) = (valD b (.inr s)).or (valD a (.inr s)) := by
  obtain ⟨h1, h2⟩ := DI.merge (sortK_DI ha) (sortK_DI hb).1
  rw [sortK_len, sortK_len] at h2
  exact ⟨h1, h2, fun s => by rw [valD_merge _ _ _ (sortK_DI hb).2, sortK_val hb, sortK_val ha]⟩
theorem merge_facts (ha : DI v a) (hb : DI v b) : DI v (mergeD a b) ∧ (mergeD a b).length ≤ a.length + b.length := DI.merge ha hb.1
end
theorem sel_ret {ss : List Str} {p : Str → Bool} {t : D → W Bool} {f : D → W D} {g : Str → D} (hl : ss.length ≤ 1000000) (ht : ∀ s ∈ ss, t (.str s) = ret (p s)) (hf : ∀ s ∈ ss, p s = true → f (.str s) = ret (g s)) :
    selP t f (ss.map .str) = ret ((ss.filter p).map g) := by
  rw [selP_ret (p := fun k => match k with | .str s => p s | _ => false) (g := fun k => match k with | .str s => g s | _ => .non) (by rw [List.length_map]; exact hl) (fun x hx => by
    obtain ⟨s, hs, rfl⟩ := List.mem_map.mp hx
    exact ht s hs) (fun x hx hp => by
    obtain ⟨s, hs, rfl⟩ := List.mem_map.mp hx
    exact hf s hs hp), List.filter_map, List.map_map]
  rfl
theorem getW_str (j : List (Key × D)) (s : Str) : getW j (.str s) = ret (valS j s) := rfl
def neQ (x y : D) : Bool := match x, y with
  | .int i, .int j => !decide (i = j)
  | .non, .non => false
  | _, _ => true
theorem vg_shape {x : D} (h : vg true x = true) : x = .non ∨ ∃ i, x = .int i ∧ numB (.int i) = true := by
  cases x with
  | non => exact .inl rfl
  | int i => exact .inr ⟨i, rfl, by simpa [vg, isNone] using h⟩
  | _ => simp [vg, isNone, numB] at h
theorem num_vg (x : D) (h : numB x = true) : vg true x = true := by
  unfold vg
  rw [h, Bool.or_true]
theorem neB_ent {x y : D} (hx : vg true x = true) (hy : vg true y = true) : neB x y = ret (neQ x y) := by
  rcases vg_shape hx with rfl | ⟨i, rfl, _⟩ <;> rcases vg_shape hy with rfl | ⟨j, rfl, _⟩
  · unfold neB; rw [grd_pos (.inl ⟨rfl, rfl⟩)]; simp [py, PyData.eqv, neQ]
  · unfold neB; rw [grd_pos (.inl ⟨rfl, rfl⟩)]; simp [py, PyData.eqv, neQ]
  · unfold neB; rw [grd_pos (.inl ⟨rfl, rfl⟩)]; simp [py, PyData.eqv, neQ]
  · unfold neB; rw [grd_pos (.inl ⟨rfl, rfl⟩)]; simp only [py, PyData.eqv, neQ]; rfl
theorem valS_ent {j : List (Key × D)} (h : DI numB j) (s : Str) : vg true (valS j s) = true ∧ ((valD j (.inr s) = none ∧ valS j s = .non) ∨ ∃ i, valD j (.inr s) = some (.int i) ∧ valS j s = .int i) := by
  unfold valS
  by_cases q : s ∈ keysS j
  · obtain ⟨x, e, hx⟩ := valD_some h q
    rw [e]
    refine ⟨num_vg _ hx, .inr ?_⟩
    cases x with
    | int i => exact ⟨i, rfl, rfl⟩
    | _ => cases hx
  · cases e : valD j (.inr s) with
    | none => exact ⟨rfl, .inl ⟨rfl, rfl⟩⟩
    | some x => exact absurd ((mem_keysS h s).mpr (by rw [e]; rfl)) q
theorem pairsOf_KF {ss : List Str} {h : Str → D} (hs : ss.Pairwise fun a b => leS a b = true) : pairsOf (KF ss h) = PF ss h := by
  rw [pairsOf_PF, keysS_KF, sortT_id hs]
  exact PF_congr fun s hs => by unfold valS; rw [valD_KF, if_pos hs]; rfl
section
variable {f g : List (Key × D)}
def difS (f g : List (Key × D)) : List Str := (sortT (keysS (mergeD f g))).filter fun s => neQ (valS f s) (valS g s)
theorem valS_sortK {v : D → Bool} {j : List (Key × D)} (h : DI v j) (s : Str) : valS (sortK j) s = valS j s := by unfold valS; rw [sortK_val h]
theorem difS_pw (hf : DI numB f) (hg : DI numB g) : (difS f g).Pairwise fun a b => ltQ a b = true := (sortT_lt (keysS_nodup (merge_facts hf hg).1)).filter _
theorem difS_nodup (hf : DI numB f) (hg : DI numB g) : (difS f g).Nodup := (sortT_nodup (keysS_nodup (merge_facts hf hg).1)).filter _
theorem difS_DI (hf : DI numB f) (hg : DI numB g) : DI (vg true) (KF (difS f g) (valS g)) := DI.kf (difS_nodup hf hg) fun s hs => ⟨keysS_word (merge_facts hf hg).1 (sortT_mem.mp (List.mem_filter.mp hs).1), (valS_ent hg s).1⟩
end
theorem ent_sz (x : D) (h : vg true x = true) : Sz 0 0 x := by
  rcases vg_shape h with rfl | ⟨i, rfl, hi⟩
  · exact .non
  · exact numB_sz _ hi
theorem st_sz {j : List (Key × D)} (h : DI (vg true) j) (hl : j.length ≤ 32) : Sz 400 2 (.tup (pairsOf j)) := by
  obtain ⟨h1, h2⟩ := asc_sz ent_sz (pairsOf_asc h)
  rw [pairsOf_len] at h2
  exact .tup h1 (by omega)
/-! ### d.pop(k), k in d -/
theorem dropD_DI {v : D → Bool} {j : List (Key × D)} (h : DI v j) (k : Key) : DI v (dropD j k) :=
  ⟨fun kv hk => h.1 kv (List.mem_filter.mp hk).1, List.Pairwise.sublist (List.Sublist.map _ List.filter_sublist) h.2⟩
theorem dropD_val (k k' : Key) : ∀ j : List (Key × D), valD (dropD j k) k' = if k' = k then none else valD j k'
  | [] => by
    show none = _
    split <;> rfl
  | (a, y) :: r => by
    have ih := dropD_val k k' r
    unfold dropD at ih ⊢
    rw [List.filter_cons]
    by_cases e : a = k
    · subst e
      simp only [ne_eq, not_true_eq_false, decide_false, Bool.false_eq_true, if_false]
      rw [ih, valD_cons]
      by_cases e2 : k' = a
      · rw [if_pos e2, if_pos e2]
      · rw [if_neg e2, if_neg e2, if_neg fun z => e2 z.symm]
    · simp only [ne_eq, e, not_false_eq_true, decide_true, if_true]
      rw [valD_cons, valD_cons, ih]
      by_cases e2 : a = k'
      · rw [if_pos e2, if_pos e2, if_neg fun z => e (e2.trans z)]
      · rw [if_neg e2, if_neg e2]
theorem inW_str (j : List (Key × D)) (s : Str) : inW j (.str s) = ret (valD j (.inr s)).isSome := rfl
theorem popW_str {j : List (Key × D)} {s : Str} (h : (valD j (.inr s)).isSome = true) : popW j (.str s) = ret (dropD j (.inr s)) := by
  show bnd (ret (Sum.inr s)) (fun kk => bnd (optW (valD j kk)) fun _ => ret (dropD j kk)) = _
  rw [bnd_ret]
  cases e : valD j (.inr s) with
  | none => rw [e] at h; cases h
  | some x => rfl
/-- a store behind a write -/
def wrt (j : List (Key × D)) (s : Str) (x : D) : List (Key × D) := if isNone x = true then dropD j (.inr s) else putD (dropD j (.inr s)) (.inr s) x
theorem dropD_id {j : List (Key × D)} {k : Key} (h : valD j k = none) : dropD j k = j := by
  unfold dropD
  refine List.filter_eq_self.mpr fun kv hk => ?_
  refine decide_eq_true fun e => ?_
  have : k ∈ j.map (·.1) := e ▸ List.mem_map.mpr ⟨kv, hk, rfl⟩
  obtain ⟨x, ex⟩ := valD_mem this
  rw [h] at ex
  cases ex
theorem wrt_DI {j : List (Key × D)} {s : Str} {x : D} (h : DI numB j) (hs : wordB (.str s) = true) (hx : vg true x = true) : DI numB (wrt j s x) := by
  unfold wrt
  split
  · exact dropD_DI h _
  · refine DI.put (dropD_DI h _) hs ?_
    unfold vg at hx
    rename_i q
    rw [Bool.or_eq_true] at hx
    exact hx.resolve_left fun z => q (by simpa using z)
theorem wrt_val (j : List (Key × D)) (s t : Str) (x : D) : valD (wrt j s x) (.inr t) = if t = s then (if isNone x = true then none else some x) else valD j (.inr t) := by
  unfold wrt
  split
  · rw [dropD_val]
    by_cases e : t = s
    · rw [if_pos e, if_pos (congrArg Sum.inr e)]
    · rw [if_neg e, if_neg fun z => e (Sum.inr.inj z)]
  · rw [valD_put, dropD_val]
    by_cases e : t = s
    · rw [if_pos e, if_pos (congrArg Sum.inr e)]
    · rw [if_neg e, if_neg fun z => e (Sum.inr.inj z), if_neg fun z => e (Sum.inr.inj z)]
theorem wrt_keys {j : List (Key × D)} {s : Str} {x : D} (h : DI numB j) (hs : wordB (.str s) = true) (hx : vg true x = true) {t : Str} (ht : t ∈ keysS (wrt j s x)) : t = s ∨ t ∈ keysS j := by
  rw [mem_keysS (wrt_DI h hs hx), wrt_val] at ht
  by_cases e : t = s
  · exact .inl e
  · rw [if_neg e] at ht
    exact .inr ((mem_keysS h t).mpr ht)
/-! ### stores over known keys -/
theorem nodup_len {α : Type} [DecidableEq α] : ∀ {l m : List α}, l.Nodup → (∀ x ∈ l, x ∈ m) → l.length ≤ m.length
  | [], _, _, _ => Nat.zero_le _
  | x :: l, m, h, hm => by
    have h2 := List.nodup_cons.mp h
    have hx : x ∈ m := hm x List.mem_cons_self
    have ih := nodup_len (l := l) (m := m.erase x) h2.2 fun y hy => (List.mem_erase_of_ne fun e : y = x => h2.1 (by rw [← e]; exact hy)).mpr (hm y (List.mem_cons_of_mem _ hy))
    rw [List.length_erase_of_mem hx] at ih
    have : 0 < m.length := List.length_pos_of_mem hx
    rw [List.length_cons]
    omega
def StK (K : List Str) (j : List (Key × D)) : Prop := DI numB j ∧ ∀ s ∈ keysS j, s ∈ K
def St (K : List Str) (d : D) : Prop := ∃ j, StK K j ∧ d = .tup (pairsOf j)
theorem StK.len {K : List Str} {j : List (Key × D)} (h : StK K j) : j.length ≤ K.length := by
  have := nodup_len (keysS_nodup h.1) h.2
  unfold keysS at this
  rwa [List.length_map] at this
theorem StK.wrt {K : List Str} {j : List (Key × D)} {s : Str} {x : D} (h : StK K j) (hs : wordB (.str s) = true) (hk : s ∈ K) (hx : vg true x = true) : StK K (wrt j s x) :=
  ⟨wrt_DI h.1 hs hx, fun t ht => (wrt_keys h.1 hs hx ht).elim (fun e => e ▸ hk) (h.2 t)⟩
theorem pairsOf_gd {j : List (Key × D)} (h : DI (vg true) j) : Gd 2 (.tup (pairsOf j)) := by
  refine .tup fun x hx => ?_
  obtain ⟨s, hs, rfl⟩ := List.mem_map.mp hx
  refine .tup fun y hy => ?_
  rcases List.mem_cons.mp hy with rfl | hy
  · exact .str (word_ok (keysS_word h (sortT_mem.mp hs)))
  · rw [List.mem_singleton.mp hy]
    obtain ⟨y, e, hy⟩ := valD_some h (sortT_mem.mp hs)
    have ev : valS j s = y := by unfold valS; rw [e]; rfl
    rw [ev]
    unfold vg at hy
    cases y with
    | non => exact .non
    | int i => exact .int
    | _ => simp [isNone, numB] at hy
theorem St.gd {K : List Str} {d : D} (h : St K d) : Gd 2 d := by
  obtain ⟨j, hj, rfl⟩ := h
  exact pairsOf_gd (hj.1.mono num_vg)
theorem St.sz {K : List Str} {d : D} (h : St K d) (hK : K.length ≤ 100) : Sz 1100 2 d := by
  obtain ⟨j, hj, rfl⟩ := h
  obtain ⟨h1, h2⟩ := asc_sz numB_sz (pairsOf_asc hj.1)
  rw [pairsOf_len] at h2
  have := hj.len
  exact .tup h1 (by omega)
theorem gen_store {body : D → W (Option D)} {c : Nat} : ∀ {L : List Str}, L.Nodup → (∀ s ∈ L, Gen (body (.str s)) c fun o => o = none ∨ ∃ x, numB x = true ∧ o = some (.tup [.str s, x])) →
    Gen (compP body (L.map .str)) (c * L.length) fun ys => ∃ ss g, ys = PF ss g ∧ List.Sublist ss L ∧ ∀ s ∈ ss, numB (g s) = true
  | [], _, _ => Gen.ret ⟨[], fun _ => .non, rfl, .slnil, fun _ h => nomatch h⟩
  | s :: L, hn, h => by
    have hn2 := List.nodup_cons.mp hn
    have ih := gen_store (L := L) hn2.2 fun t ht => h t (List.mem_cons_of_mem _ ht)
    refine (Gen.bnd (h s List.mem_cons_self) (d := c * L.length) fun o ho => ?_).up (by rw [List.length_cons, Nat.mul_add]; omega)
    rcases ho with rfl | ⟨x, hx, rfl⟩
    · exact ih.to fun ys ⟨ss, g, e, hs, hv⟩ => ⟨ss, g, e, hs.cons _, hv⟩
    · refine (Gen.bnd (d := 0) ih fun ys ⟨ss, g, e, hs, hv⟩ => Gen.ret (a := _ :: ys) ?_).up (Nat.le_refl _)
      subst e
      have ns : s ∉ ss := fun z => hn2.1 (hs.subset z)
      refine ⟨s :: ss, fun t => if t = s then x else g t, ?_, hs.cons₂ _, fun t ht => ?_⟩
      · show _ = D.tup [.str s, if s = s then x else g s] :: PF ss _
        rw [if_pos rfl]
        congr 1
        exact PF_congr fun t ht => by rw [if_neg fun e : t = s => ns (by rw [← e]; exact ht)]
      · show numB (if t = s then x else g t) = true
        by_cases e : t = s
        · rw [if_pos e]; exact hx
        · rw [if_neg e]; exact hv t ((List.mem_cons.mp ht).resolve_left e)
theorem St.of_pf {K ss : List Str} {g : Str → D} (hK : ∀ s ∈ K, wordB (.str s) = true) (hn : K.Nodup) (hs : List.Sublist ss (sortT K)) (hv : ∀ s ∈ ss, numB (g s) = true) : St K (.tup (PF ss g)) := by
  have hp : ss.Pairwise fun a b => leS a b = true := (sortT_pw K).sublist hs
  have hnd : ss.Nodup := (sortT_nodup hn).sublist hs
  have hm : ∀ s ∈ ss, s ∈ K := fun s h => sortT_mem.mp (hs.subset h)
  refine ⟨KF ss g, ⟨DI.kf hnd fun s h => ⟨hK s (hm s h), hv s h⟩, fun s h => ?_⟩, by rw [pairsOf_KF hp]⟩
  rw [keysS_KF] at h
  exact hm s h
/-! ### loops that gather -/
theorem app_run {α γ : Type} {bd : α → List D → W (Step (List D) γ)} {k : List D → W γ} {lab : α → D} : ∀ {xs : List α} {j : List D}, (∀ x ∈ xs, ∀ j, bd x j = roomL j (ret (.go (j ++ [lab x])))) → j.length + xs.length < 1000000 → forT bd k xs j = k (j ++ xs.map lab)
  | [], j, _, _ => by rw [List.map_nil, List.append_nil]; rfl
  | x :: xs, j, h, hl => by
    rw [List.length_cons] at hl
    show bnd (bd x j) _ = _
    rw [h x List.mem_cons_self, room_pos (by omega), bnd_ret]
    show forT bd k xs (j ++ [lab x]) = _
    rw [app_run (fun y hy => h y (List.mem_cons_of_mem _ hy)) (by rw [List.length_append, List.length_singleton]; omega), List.map_cons, List.append_assoc]
    rfl
/-! ### letters -/
def chS (k : Nat) : Str := ⟨#[k]⟩
theorem abc_ix {i : Int} (h0 : 0 ≤ i) (h1 : i < 26) : ixD (.str (Str.ofString "abcdefghijklmnopqrstuvwxyz")) (.int i) = ret (.str (chS (97 + i.toNat))) := by
  obtain ⟨n, rfl⟩ := Int.eq_ofNat_of_zero_le h0
  have hn : n < 26 := by omega
  have e : ∀ n < 26, (Str.ofString "abcdefghijklmnopqrstuvwxyz").cps.toList[n]? = some (97 + n) := by
    rw [abc]
    decide
  exact ix_s (atI_nat (e n hn))
theorem chS_word {k : Nat} (h : lower k = true) : wordB (.str (chS k)) = true := wordB_signs [k] (Nat.le_refl _) (by show 1 ≤ 8; decide) fun j hj => by rw [List.mem_singleton.mp hj]; exact h
def strL (ks : List Nat) : Str := ⟨ks.toArray⟩
theorem strL_toList (ks : List Nat) : (strL ks).cps.toList = ks := rfl
theorem strL_len (ks : List Nat) : (strL ks).length = ks.length := List.size_toArray
theorem chS_strL (k : Nat) : chS k = strL [k] := rfl
theorem str_app (a b : List Nat) : strL a ++ strL b = strL (a ++ b) := str_ext (by
  show ((strL a).cps ++ (strL b).cps).toList = a ++ b
  rw [Array.toList_append]
  rfl)
theorem addD_strL {a b : List Nat} (h : a.length + b.length ≤ 1000000) : addD (.str (strL a)) (.str (strL b)) = ret (.str (strL (a ++ b))) := by
  show grd _ (ret (D.str (strL a ++ strL b))) = _
  rw [str_app]
  exact grd_pos (by rw [strL_len, strL_len, sizeLine_eq]; omega) _
theorem cutS_take (a : List Nat) (n : Nat) : cutS (strL a) none (some (n : Int)) = strL (a.take n) := by
  unfold cutS
  rw [HT.sIx_none, HT.sIx_nat, List.drop_zero, Nat.sub_zero, strL_len]
  show strL ((strL a).cps.toList.take _) = _
  rw [strL_toList]
  congr 1
  by_cases h : n ≤ a.length
  · rw [Nat.min_eq_left h]
  · rw [Nat.min_eq_right (by omega), List.take_length, List.take_of_length_le (by omega)]
theorem strL_inj {a b : List Nat} (h : strL a = strL b) : a = b := by
  have := congrArg (fun s : Str => s.cps.toList) h
  exact this
theorem wordB_strL (ks : List Nat) (h1 : 1 ≤ ks.length) (h2 : ks.length ≤ 8) (h : ∀ k ∈ ks, lower k = true) : wordB (.str (strL ks)) = true := wordB_signs ks h1 h2 h
theorem letter_low {i : Int} (h0 : 0 ≤ i) (h1 : i < 26) : lower (97 + i.toNat) = true := decide_eq_true (by omega)
/-! ### the words of commands -/
abbrev wSet : Str := Str.ofString "set"
abbrev wDel : Str := Str.ofString "del"
abbrev wMark : Str := Str.ofString "mark"
abbrev wBack : Str := Str.ofString "back"
abbrev wKeep : Str := Str.ofString "keep"
theorem in_two (a b c : Str) : inFlat false (.str a) (.tup [.str b, .str c]) = ret (.bl (b == a || c == a)) := by
  show grd _ _ = _
  rw [grd_pos ⟨rfl, rfl⟩]
  simp [scEq]
theorem ww {a b : Str} (h : a ≠ b := by decide +kernel) : (a == b) = false := beq_false_of_ne h
theorem w_sd : (wSet == wDel) = false := ww
theorem w_sm : (wSet == wMark) = false := ww
theorem w_sb : (wSet == wBack) = false := ww
theorem w_sk : (wSet == wKeep) = false := ww
theorem w_ds : (wDel == wSet) = false := ww
theorem w_dm : (wDel == wMark) = false := ww
theorem w_db : (wDel == wBack) = false := ww
theorem w_dk : (wDel == wKeep) = false := ww
theorem w_ms : (wMark == wSet) = false := ww
theorem w_md : (wMark == wDel) = false := ww
theorem w_mb : (wMark == wBack) = false := ww
theorem w_mk : (wMark == wKeep) = false := ww
theorem w_bs : (wBack == wSet) = false := ww
theorem w_bd : (wBack == wDel) = false := ww
theorem w_bm : (wBack == wMark) = false := ww
theorem w_bk : (wBack == wKeep) = false := ww
theorem w_ks : (wKeep == wSet) = false := ww
theorem w_kd : (wKeep == wDel) = false := ww
theorem w_km : (wKeep == wMark) = false := ww
theorem w_kb : (wKeep == wBack) = false := ww
theorem intI_int (i : Int) : intI (.int i) = ret i := rfl
theorem lenI_tup (xs : List D) : lenI (.tup xs) = ret (xs.length : Int) := rfl
theorem lenI_lst (xs : List D) : lenI (.lst xs) = ret (xs.length : Int) := rfl
theorem unp2_tup (a b : D) : unp2 (.tup [a, b]) = ret (a, b) := rfl
theorem unp2_lst (a b : D) : unp2 (.lst [a, b]) = ret (a, b) := rfl
end PL

namespace Q42
open PySem PySem.Spec L2 PL
@[irreducible] def d_is_integer (value : D) : W D :=
    andD (ret (.bl (isT .int value))) (ret (.bl (!(isT .bool value))))
def m_is_integer : List SV → W D
  | [.d value] => d_is_integer value
  | _ => stuck
@[irreducible] def d_is_between (value : D) (least : D) (most : D) : W D :=
    andD (cl (d_is_integer value)) (thenB (leD least value) (leD value most))
def m_is_between : List SV → W D
  | [.d value, .d least, .d most] => d_is_between value least most
  | _ => stuck
@[irreducible] def d_is_word (value : D) : W D :=
    bnd (orB (ret (!(isT .str value))) (bnd (lenI value) fun n => bnd (thenB (ret (.bl (decide (1 ≤ n)))) (ret (.bl (decide (n ≤ 8))))) fun k => bnd (blB k) fun k1 => ret (!k1))) fun kk => if kk = true then
    ret (.bl false)
    else
    bnd (codesD value) fun ks => bnd (mapP (fun sign => inStr false (chD sign) (.str (Str.ofString "abcdefghijklmnopqrstuvwxyz"))) ks) fun xs => allD (.lst xs)
def m_is_word : List SV → W D
  | [.d value] => d_is_word value
  | _ => stuck
@[irreducible] def d_is_value (value : D) : W D :=
    cl (d_is_between value (.int (-1000000000000000000)) (.int 1000000000000000000))
def m_is_value : List SV → W D
  | [.d value] => d_is_value value
  | _ => stuck
@[irreducible] def d_is_command (value : D) : W D :=
    bnd (orB (ret (!(isT .tup value))) (orB (bnd (lenI value) fun n => ret (decide (n < 2))) (orB (bnd (ixD value (.int 0)) fun y => ret (!(isT .str y))) (bnd (ixD value (.int 1)) fun y1 => bnd (cl (d_is_word y1)) fun y2 => bnd (tru y2) fun k => ret (!k))))) fun kk => if kk = true then
    ret (.bl false)
    else
    bnd (bnd (ixD value (.int 0)) fun y3 => eqB y3 (.str (Str.ofString "set"))) fun kk => if kk = true then
    andD (bnd (lenI value) fun n1 => ret (.bl (decide (n1 = 3)))) (bnd (ixD value (.int 2)) fun y4 => cl (d_is_value y4))
    else
    andD (bnd (lenI value) fun n2 => ret (.bl (decide (n2 = 2)))) (bnd (ixD value (.int 0)) fun y6 => inFlat false y6 (.tup [(.str (Str.ofString "del")), (.str (Str.ofString "mark")), (.str (Str.ofString "back")), (.str (Str.ofString "keep"))]))
def m_is_command : List SV → W D
  | [.d value] => d_is_command value
  | _ => stuck
@[irreducible] def d_is_try (value : D) : W D :=
    andD (ret (.bl (isT .tup value))) (andD (bnd (lenI value) fun n => ret (.bl (decide (n = 3)))) (andD (bnd (ixD value (.int 0)) fun y => ret (.bl (isT .str y))) (bnd (ixD value (.int 0)) fun y1 => bnd (eqB y1 (.str (Str.ofString "try"))) fun k => ret (.bl k))))
def m_is_try : List SV → W D
  | [.d value] => d_is_try value
  | _ => stuck
@[irreducible] def d_parts_of (recF : List SV → W D) (value : D) (depth : Int) : W D :=
    if (!(isA [.tup, .lst] value)) = true then
    ret .non
    else
    bnd (items value) fun xs => forT (fun item j =>
    bnd (bnd (cl (d_is_command item)) fun y => tru y) fun kk => if kk = true then
    ret (.go ((j.1 + 1), j.2))
    else
    bnd (andB (bnd (cl (d_is_try item)) fun y1 => tru y1) (ret (decide (depth < 3)))) fun kk => if kk = true then
    bnd (bnd (slD item (some 1) none) fun s => bnd (items s) fun xs1 => mapP (fun block => cl (recF [.d block, .d (.int (depth + 1))])) xs1) fun inner =>
    bnd (bnd (inDp false .non (.lst inner)) fun k3 => blB k3) fun kk => if kk = true then
    ret (.out .non)
    else
    bnd (bnd (mapP (fun part => ixD part (.int 0)) inner) fun xs2 => bnd (sumW (.lst xs2)) fun total => ret (j.1 + total)) fun commands =>
    bnd (bnd (mapP (fun part1 => ixD part1 (.int 1)) inner) fun xs3 => bnd (sumW (.lst xs3)) fun total1 => ret (j.2 + (1 + total1))) fun tries =>
    ret (.go (commands, tries))
    else
    ret (.out .non)) (fun j1 =>
    ret (.tup [(.int j1.1), (.int j1.2)])) xs (0, 0)
def mm_parts_of (recF : List SV → W D) : List SV → W D
  | [.d value, .d (.int depth)] => d_parts_of recF value depth
  | _ => stuck
def m_parts_of : Nat → List SV → W D
  | 0 => fun _ => stuck
  | n + 1 => mm_parts_of (m_parts_of n)
@[irreducible] def k_parts_of : List SV → W D := m_parts_of 6
theorem k_parts_of_eq : k_parts_of = m_parts_of 6 := by unfold k_parts_of; rfl
@[irreducible] def d_is_program (value : D) : W D :=
    bnd (cl (k_parts_of [.d value, .d (.int 0)])) fun parts =>
    andD (ret (.bl (!isNone parts))) (andD (bnd (ixD parts (.int 0)) fun y1 => bnd (intI y1) fun i => ret (.bl (decide (i ≤ 20)))) (bnd (ixD parts (.int 1)) fun y2 => bnd (intI y2) fun i1 => ret (.bl (decide (i1 ≤ 4)))))
def m_is_program : List SV → W D
  | [.d value] => d_is_program value
  | _ => stuck
@[irreducible] def d_l_pick (someV : D) : W D :=
    bnd (lenI someV) fun n => bnd (drw n) fun r => ixD someV (.int r)
def m_l_pick : List SV → W D
  | [.pen, .d someV] => d_l_pick someV
  | _ => stuck
@[irreducible] def d_l_labels (many : Int) : W D :=
    bnd (bnd (drw 3) fun r => bnd (drw 26) fun r1 => ret (r, r1)) fun p =>
    bnd (bnd (rngK 7) fun isV => bnd (mapP (fun k => d_l_pick (.str (Str.ofString "abcdefghijklmnopqrstuvwxyz"))) isV) fun xs => joinD (.str (Str.ofString "")) (.lst xs)) fun stem =>
    bnd (rngI many) fun isV1 => forT (fun k1 j1 =>
    bnd (bnd (mulI 7 k1) fun i => bnd (modI (p.2 + i) 26) fun i1 => ixD (.str (Str.ofString "abcdefghijklmnopqrstuvwxyz")) (.int i1)) fun sign =>
    bnd (bnd (addD stem sign) fun c => bnd (modI k1 8) fun i2 => bnd (slD stem none (some i2)) fun s => bnd (addD sign s) fun c1 => ixD (.lst [sign, c, c1]) (.int p.1)) fun app => roomL j1 (
    ret (.go (j1 ++ [app])))) (fun j2 =>
    ret (.lst j2)) isV1 []
def m_l_labels : List SV → W D
  | [.pen, .d (.int many)] => d_l_labels many
  | _ => stuck
@[irreducible] def d_l_entry : W D :=
    bnd (drw 100) fun r => bnd (drw 6) fun r1 => ixD (.lst [(.int 0), (.int 1), (.int (-1)), (.int 1000000000000000000), (.int (-1000000000000000000)), (.int r)]) (.int r1)
def m_l_entry : List SV → W D
  | [.pen] => d_l_entry
  | _ => stuck
@[irreducible] def d_l_command (keys : D) (labels : D) : W D :=
    bnd (drw 8) fun way =>
    if (decide (way < 2)) = true then
    bnd (d_l_pick keys) fun y => bnd (d_l_entry) fun y1 => ret (.tup [(.str (Str.ofString "set")), y, y1])
    else
    if (decide (way = 2)) = true then
    bnd (d_l_pick keys) fun y2 => ret (.tup [(.str (Str.ofString "del")), y2])
    else
    bnd (ixD (.lst [(.str (Str.ofString "mark")), (.str (Str.ofString "mark")), (.str (Str.ofString "back")), (.str (Str.ofString "back")), (.str (Str.ofString "keep"))]) (.int (way - 3))) fun y3 => bnd (d_l_pick labels) fun y4 => ret (.tup [y3, y4])
def m_l_command : List SV → W D
  | [.pen, .d keys, .d labels] => d_l_command keys labels
  | _ => stuck
@[irreducible] def d_l_block (recF : List SV → W D) (keys : D) (labels : D) (room : Addr) (depth : Int) : W D :=
    bnd (bnd (drw 5) fun r => rngI r) fun isV => forT (fun k j =>
    bnd (andB (ret (decide (depth < 3))) (andB (bnd (ixOb room (.int 1)) fun y => bnd (intI y) fun i => ret (decide (0 < i))) (bnd (drw 3) fun r1 => ret (decide (r1 = 0))))) fun kk => if kk = true then
    bnd (bnd (ixOb room (.int 1)) fun y1 => bnd (intI y1) fun i1 => stOb room (.int 1) (.int (i1 - 1))) fun _ =>
    bnd (recF [.pen, .d keys, .d labels, .o room, .d (.int (depth + 1))]) fun one =>
    bnd (bnd (recF [.pen, .d keys, .d labels, .o room, .d (.int (depth + 1))]) fun y3 => ret [(.str (Str.ofString "try")), one, y3]) fun app => roomL j (
    ret (.go (j ++ [(.tup app)])))
    else
    bnd (bnd (ixOb room (.int 0)) fun y4 => bnd (intI y4) fun i2 => ret (decide (0 < i2))) fun kk => if kk = true then
    bnd (bnd (ixOb room (.int 0)) fun y5 => bnd (intI y5) fun i3 => stOb room (.int 0) (.int (i3 - 1))) fun _ =>
    bnd (d_l_command keys labels) fun app1 => roomL j (
    ret (.go (j ++ [app1])))
    else
    ret (.go j)) (fun j1 =>
    bnd (drw 2) fun r2 => ixD (.lst [(.tup j1), (.lst j1)]) (.int r2)) isV []
def mm_l_block (recF : List SV → W D) : List SV → W D
  | [.pen, .d keys, .d labels, .o room, .d (.int depth)] => d_l_block recF keys labels room depth
  | _ => stuck
def m_l_block : Nat → List SV → W D
  | 0 => fun _ => stuck
  | n + 1 => mm_l_block (m_l_block n)
@[irreducible] def k_l_block : List SV → W D := m_l_block 5
theorem k_l_block_eq : k_l_block = m_l_block 5 := by unfold k_l_block; rfl
@[irreducible] def d_l_whole (item : D) : W D :=
    andD (ret (.bl (isT .int item))) (ret (.bl (!(isT .bool item))))
def m_l_whole : List SV → W D
  | [.d item] => d_l_whole item
  | _ => stuck
@[irreducible] def d_l_label (item : D) : W D :=
    bnd (orB (ret (!(isT .str item))) (bnd (lenI item) fun n => bnd (thenB (ret (.bl (decide (1 ≤ n)))) (ret (.bl (decide (n ≤ 8))))) fun k => bnd (blB k) fun k1 => ret (!k1))) fun kk => if kk = true then
    ret (.bl false)
    else
    bnd (codesD item) fun ks => bnd (selP (fun sign => bnd (inStr true (chD sign) (.str (Str.ofString "abcdefghijklmnopqrstuvwxyz"))) fun k3 => bnd (blB k3) fun k4 => ret k4) (fun sign => ret (chD sign)) ks) fun xs => bnd (eqB (.lst xs) (.lst [])) fun k5 => ret (.bl k5)
def m_l_label : List SV → W D
  | [.d item] => d_l_label item
  | _ => stuck
@[irreducible] def d_l_is_command (item : D) : W D :=
    bnd (orB (ret (!(isT .tup item))) (orB (bnd (lenI item) fun n => bnd (inFlat true (.int n) (.tup [(.int 2), (.int 3)])) fun k => blB k) (bnd (ixD item (.int 0)) fun y => ret (!(isT .str y))))) fun kk => if kk = true then
    ret (.bl false)
    else
    bnd (bnd (ixD item (.int 1)) fun y1 => bnd (cl (d_l_label y1)) fun y2 => bnd (tru y2) fun k3 => ret (!k3)) fun kk => if kk = true then
    ret (.bl false)
    else
    bnd (bnd (ixD item (.int 0)) fun y3 => eqB y3 (.str (Str.ofString "set"))) fun kk => if kk = true then
    andD (bnd (lenI item) fun n1 => ret (.bl (decide (n1 = 3)))) (andD (bnd (ixD item (.int 2)) fun y4 => cl (d_l_whole y4)) (bnd (ixD item (.int 2)) fun y6 => bnd (intI y6) fun i => thenB (ret (.bl (decide ((-1000000000000000000) ≤ i)))) (ret (.bl (decide (i ≤ 1000000000000000000))))))
    else
    andD (bnd (lenI item) fun n2 => ret (.bl (decide (n2 = 2)))) (bnd (ixD item (.int 0)) fun y7 => inFlat false y7 (.tup [(.str (Str.ofString "del")), (.str (Str.ofString "mark")), (.str (Str.ofString "back")), (.str (Str.ofString "keep"))]))
def m_l_is_command : List SV → W D
  | [.d item] => d_l_is_command item
  | _ => stuck
@[irreducible] def d_l_counted (recF : List SV → W D) (thing : D) (depth : Int) : W D :=
    if (!(isA [.lst, .tup] thing)) = true then
    ret .non
    else
    bnd (items thing) fun xs => forT (fun item j =>
    bnd (bnd (cl (d_l_is_command item)) fun y => tru y) fun kk => if kk = true then
    bnd (bnd (ixD (.lst j) (.int 0)) fun y1 => bnd (intI y1) fun i => bnd (ixD (.lst j) (.int 1)) fun y2 => ret [(.int (i + 1)), y2]) fun total =>
    ret (.go total)
    else
    bnd (orB (ret (!(isT .tup item))) (orB (bnd (lenI item) fun n => ret (!decide (n = 3))) (bnd (ixD item (.int 0)) fun y3 => ret (!(isT .str y3))))) fun kk => if kk = true then
    ret (.out .non)
    else
    bnd (bnd (ixD item (.int 0)) fun y4 => neB y4 (.str (Str.ofString "try"))) fun kk => if kk = true then
    ret (.out .non)
    else
    bnd (bnd (ixD item (.int 1)) fun y5 => bnd (cl (recF [.d y5, .d (.int (depth + 1))])) fun y6 => bnd (ixD item (.int 2)) fun y7 => bnd (cl (recF [.d y7, .d (.int (depth + 1))])) fun y8 => ret (y6, y8)) fun p =>
    bnd (orB (ret (isNone p.1)) (orB (ret (isNone p.2)) (ret (decide (2 < depth))))) fun kk => if kk = true then
    ret (.out .non)
    else
    bnd (bnd (ixD (.lst j) (.int 0)) fun y9 => bnd (ixD p.1 (.int 0)) fun y10 => bnd (addD y9 y10) fun c => bnd (ixD p.2 (.int 0)) fun y11 => bnd (addD c y11) fun c1 => bnd (ixD (.lst j) (.int 1)) fun y12 => bnd (ixD p.1 (.int 1)) fun y13 => bnd (addD y12 y13) fun c2 => bnd (ixD p.2 (.int 1)) fun y14 => bnd (addD c2 y14) fun c3 => bnd (intI c3) fun i1 => ret [c1, (.int (i1 + 1))]) fun total1 =>
    ret (.go total1)) (fun j1 =>
    ret (.lst j1)) xs [(.int 0), (.int 0)]
def mm_l_counted (recF : List SV → W D) : List SV → W D
  | [.d thing, .d (.int depth)] => d_l_counted recF thing depth
  | _ => stuck
def m_l_counted : Nat → List SV → W D
  | 0 => fun _ => stuck
  | n + 1 => mm_l_counted (m_l_counted n)
@[irreducible] def k_l_counted : List SV → W D := m_l_counted 9
theorem k_l_counted_eq : k_l_counted = m_l_counted 9 := by unfold k_l_counted; rfl
@[irreducible] def d_l_due (thing : D) : W D :=
    bnd (cl (k_l_counted [.d thing, .d (.int 0)])) fun total =>
    andD (ret (.bl (!isNone total))) (andD (bnd (ixD total (.int 0)) fun y1 => bnd (intI y1) fun i => ret (.bl (decide (i < 21)))) (bnd (ixD total (.int 1)) fun y2 => bnd (intI y2) fun i1 => ret (.bl (decide (i1 < 5)))))
def m_l_due : List SV → W D
  | [.d thing] => d_l_due thing
  | _ => stuck
@[irreducible] def d_l_strange : W D :=
    bnd (addL [(.tup [(.str (Str.ofString "try")), (.tup []), (.tup [])]), (.tup [(.str (Str.ofString "try")), (.lst []), (.tup [])]), (.tup [(.str (Str.ofString "try")), (.tup [])]), (.tup [(.str (Str.ofString "try")), (.tup []), (.tup []), (.tup [])]), (.tup [(.str (Str.ofString "Try")), (.tup []), (.tup [])]), (.lst [(.str (Str.ofString "try")), (.tup []), (.tup [])])] [(.tup [(.str (Str.ofString "set")), (.str (Str.ofString "x"))]), (.tup [(.str (Str.ofString "set")), (.str (Str.ofString "x")), (.bl true)]), (.tup [(.str (Str.ofString "set")), (.str (Str.ofString "x")), (.int (1000000000000000000 + 1))]), (.tup [(.str (Str.ofString "del")), (.str (Str.ofString "x")), (.int 1)]), (.tup [(.str (Str.ofString "mark")), (.str (Str.ofString ""))])]) fun someV =>
    bnd (addL someV [(.tup [(.str (Str.ofString "keep"))]), (.lst [(.str (Str.ofString "mark")), (.str (Str.ofString "a"))]), (.tup [(.str (Str.ofString "mark")), (.str (Str.ofString "abcdefghi"))]), (.tup [(.str (Str.ofString "back")), (.str (Str.ofString "A"))]), (.tup [(.str (Str.ofString "set")), (.str (Str.ofString "x")), .non]), .non, (.tup []), (.str (Str.ofString "mark"))]) fun someV1 =>
    bnd (addL someV1 [(.int 7), (.dic []), (.tup [(.tup [])]), (.tup [(.str (Str.ofString "try")), .non, (.tup [])]), (.tup [(.str (Str.ofString "try")), (.tup []), (.str (Str.ofString "ab"))]), (.tup [(.str (Str.ofString "del")), (.tup [(.str (Str.ofString "x"))])]), (.tup [(.str (Str.ofString "try")), (.str (Str.ofString "")), (.tup [])])]) fun someV2 =>
    bnd (addL someV2 [(.tup [(.str (Str.ofString "try")), (.tup []), (.dic [])]), (.tup [(.str (Str.ofString "try")), (.dic []), (.lst [])]), (.tup [(.str (Str.ofString "try")), (.tup [(.tup [(.str (Str.ofString "mark")), (.str (Str.ofString "a"))])]), (.lst [(.tup [(.str (Str.ofString "keep")), (.str (Str.ofString "a"))]), (.tup [])])])]) fun someV3 =>
    bnd (drw 29) fun r => ixD (.lst someV3) (.int r)
def m_l_strange : List SV → W D
  | [.pen] => d_l_strange
  | _ => stuck
@[irreducible] def d_l_bent (recF : List SV → W D) (thing : D) : W D :=
    bnd (items thing) fun items =>
    bnd (drw ((items.length : Int) + 1)) fun atV =>
    bnd (bnd (rngI (items.length : Int)) fun isV => selP (fun k => bnd (ixD (.lst items) (.int k)) fun y => bnd (ixD y (.int 0)) fun y1 => bnd (eqB y1 (.str (Str.ofString "try"))) fun k1 => ret k1) (fun k => ret (.int k)) isV) fun deeper =>
    bnd (andB (neB (.lst deeper) (.lst [])) (bnd (drw 2) fun r1 => ret (decide (r1 = 0)))) fun kk => bnd (if kk = true then
    bnd (d_l_pick (.lst deeper)) fun k4 =>
    bnd (bnd (drw 2) fun r2 => ret (1 + r2)) fun side =>
    bnd (bnd (intI k4) fun i => ixD (.lst items) (.int i)) fun item =>
    bnd (bnd (ixD item (.int side)) fun y4 => recF [.pen, .d y4]) fun inner =>
    bnd (bnd (slD item none (some side)) fun s => bnd (addD s (.tup [inner])) fun c => bnd (slD item (some (side + 1)) none) fun s1 => bnd (addD c s1) fun c1 => bnd (intI k4) fun i1 => setLW items (.int i1) c1) fun items1 =>
    ret items1
    else
    bnd (bnd (d_l_strange) fun y6 => bnd (drw 2) fun r3 => ret ([y6], r3)) fun p =>
    bnd (bnd (addL (cutD items none (some atV)) p.1) fun c2 => addL c2 (cutD items (some (atV + p.2)) none)) fun items2 =>
    ret items2) fun j =>
    bnd (drw 2) fun r4 => ixD (.lst [(.tup j), (.lst j)]) (.int r4)
def mm_l_bent (recF : List SV → W D) : List SV → W D
  | [.pen, .d thing] => d_l_bent recF thing
  | _ => stuck
def m_l_bent : Nat → List SV → W D
  | 0 => fun _ => stuck
  | n + 1 => mm_l_bent (m_l_bent n)
@[irreducible] def k_l_bent : List SV → W D := m_l_bent 7
theorem k_l_bent_eq : k_l_bent = m_l_bent 7 := by unfold k_l_bent; rfl
@[irreducible] def d_l_nested (depth : D) : W D :=
    bnd (bnd (intI depth) fun i => rngI i) fun isV => forT (fun k j =>
    ret (.go [(.tup [(.str (Str.ofString "try")), (.lst j), (.tup [])])])) (fun j1 =>
    ret (.lst j1)) isV [(.tup [(.str (Str.ofString "mark")), (.str (Str.ofString "a"))])]
def m_l_nested : List SV → W D
  | [.d depth] => d_l_nested depth
  | _ => stuck
@[irreducible] def d_law : W D :=
    bnd (rngK 4) fun isV => forT (fun turn j =>
    bnd (d_l_labels 3) fun labels =>
    bnd (bnd (mkL [(.int 20), (.int 4)]) fun room => k_l_block [.pen, .d labels, .d labels, .o room, .d (.int 0)]) fun block =>
    bnd (bnd (rngK 4) fun isV1 => bnd (mapP (fun k => k_l_bent [.pen, .d block]) isV1) fun xs => addL [block] xs) fun someV =>
    bnd (bnd (drw 5) fun r => ixD (.lst [block, (.lst [block]), (.tup [block]), (.tup [(.str (Str.ofString "try")), block, block]), (.lst [(.tup [(.str (Str.ofString "try")), block, block])])]) (.int r)) fun app => roomL someV (
    forT (fun thing j1 =>
    bnd (reprD thing) fun kept =>
    bnd (bnd (cl (d_l_due thing)) fun y5 => bnd (repD (.lst [y5]) (.int 2)) fun c1 => reprD c1) fun due =>
    bnd (bnd (cl (d_is_program thing)) fun y7 => bnd (cl (d_is_program thing)) fun y8 => ret [y7, y8]) fun told =>
    bnd (orB (bnd (reprD (.lst told)) fun y9 => neB y9 due) (bnd (reprD thing) fun y10 => neB y10 kept)) fun kk => if kk = true then
    ret (.out (.out (.bl false)))
    else
    ret (.go ())) (fun j2 =>
    ret (.go ())) (someV ++ [app]) ())) (fun j3 =>
    bnd (repD (.lst [(.tup [(.str (Str.ofString "mark")), (.str (Str.ofString "a"))])]) (.int 20)) fun many =>
    bnd (repD (.lst [(.tup [(.str (Str.ofString "try")), (.tup []), (.tup [])])]) (.int 4)) fun tries =>
    bnd (bnd (cl (d_l_nested (.int 3))) fun y11 => bnd (slD many none (some 10)) fun s => bnd (slD many none (some 10)) fun s1 => bnd (tupD s1) fun t => bnd (slD many none (some 19)) fun s2 => bnd (cl (d_l_nested (.int 3))) fun y12 => bnd (addD s2 y12) fun c4 => ret [(.tup []), (.lst []), many, tries, y11, (.lst [(.tup [(.str (Str.ofString "try")), s, t])]), c4]) fun good =>
    bnd (bnd (slD many none (some 1)) fun s3 => bnd (addD many s3) fun c5 => bnd (slD tries none (some 1)) fun s4 => bnd (addD tries s4) fun c6 => bnd (cl (d_l_nested (.int 4))) fun y13 => bnd (slD many none (some 1)) fun s5 => bnd (cl (d_l_nested (.int 1))) fun y14 => bnd (addD many y14) fun c7 => ret [c5, c6, y13, (.lst [(.tup [(.str (Str.ofString "try")), many, s5])]), c7, .non]) fun bad =>
    bnd (bnd (cl (d_l_nested (.int 1))) fun y15 => bnd (addD tries y15) fun c8 => addL bad [(.int 0), (.str (Str.ofString "")), (.str (Str.ofString "mark")), (.tup [(.str (Str.ofString "mark")), (.str (Str.ofString "a"))]), (.dic []), (.lst [.non]), (.tup [(.tup [])]), (.bl true), (.lst [(.tup [(.str (Str.ofString "try")), tries, (.tup [])])]), c8]) fun bad1 =>
    bnd (addL good bad1) fun c10 => bnd (mapP (fun thing1 => cl (d_is_program thing1)) c10) fun xs1 => bnd (repD (.lst [(.bl true)]) (.int 7)) fun c11 => bnd (repD (.lst [(.bl false)]) (.int 16)) fun c12 => bnd (addD c11 c12) fun c13 => bnd (eqB (.lst xs1) c13) fun k4 => ret (.bl k4)) isV ()
end Q42

namespace Q42
open PySem PySem.Spec L2 PL
def topS (i : Nat) : Stmt := PySem.Challenge.pw_rewindplan_k42_programs_known.main.body.getD i (.Pass ⟨0, 0, 0, 0⟩)
/-- the cells left, the total, the count of draws; at most n draws so far -/
def deckG : PenK where
  inv := fun H a b n => a ≠ b ∧ ∃ (cs : List Int) (t g : Int), H a = some (.lst [.ref b, .int t, .int g]) ∧ H b = some (.lst (cs.map V.int)) ∧ cs.length ≤ 63 ∧ 0 ≤ t ∧ t < 2147483648 ∧ 0 ≤ g ∧ g ≤ n
  dep := fun ⟨h0, cs, t, g, h1, h2, h3⟩ e1 e2 => ⟨h0, cs, t, g, e1.trans h1, e2.trans h2, h3⟩
  there := fun ⟨_, cs, t, g, h1, h2, _⟩ => ⟨(by rw [h1]; exact fun z => (nomatch z)), (by rw [h2]; exact fun z => (nomatch z))⟩
  isL := fun ⟨_, cs, t, g, h1, h2, _⟩ => ⟨⟨_, h1⟩, _, h2⟩
theorem After.deck {S : Addr → Prop} {H H2 : Hp} {a b : Addr} {cs : List Int} {t g : Int} {k : Nat} (hne : a ≠ b) (dom : ∀ x, S x → H x ≠ none) (nSa : ¬ S a) (nSb : ¬ S b) {T : List (Addr × Str)} {mg : Str → Option Value} (htb : ∀ q ∈ T, ¬ S q.1 ∧ TabI S H q.1 q.2) (haL : ∃ xs, H a = some (.lst xs)) (hbL : ∃ xs, H b = some (.lst xs)) {K : PySem.W.Frag} {n : Nt} {bb : Bool} (hm : MuOk ((deckG.wt T mg).wc bb) K S H (some (a, b)) n)
    (sm : ∀ x o, x ≠ a → x ≠ b → H x = some o → H2 x = some o) (h2 : H2 a = some (.lst [.ref b, .int t, .int g])) (hb : H2 b = some (.lst (cs.map V.int))) (h3 : cs.length ≤ 63) (ht : 0 ≤ t) (ht2 : t < 2147483648) (hg : 0 ≤ g) (hk : g ≤ k) : After ((deckG.wt T mg).wc bb) K S S (some (a, b)) n H H2 ⟨k, n.μ⟩ := by
  have eqS : ∀ x, S x → H2 x = H x := fun x hx => by
    cases e : H x with
    | none => exact absurd e (dom x hx)
    | some o => exact sm x o (fun z => nSa (z ▸ hx)) (fun z => nSb (z ▸ hx)) e
  refine ⟨⟨fun _ h => h, eqS⟩, fun x hx => by rw [eqS x hx]; exact dom x hx, fun x hx => .inl hx, fun x o e hp _ _ => sm x o (hp (a, b) rfl).1 (hp (a, b) rfl).2 e, fun q hq => TabI.grow ⟨fun _ h => h, eqS⟩ ((sm q.1 _ ((htb q hq).2.ne haL.choose_spec fun _ z => nomatch z) ((htb q hq).2.ne hbL.choose_spec fun _ z => nomatch z) (htb q hq).2.choose_spec.1).trans (htb q hq).2.choose_spec.1.symm) (htb q hq).2, fun p e => ?_, fun x nd e => ?_, fun _ h => h, hm.2⟩
  · cases e
    exact ⟨⟨hne, cs, t, g, h2, hb, h3, ht, ht2, hg, hk⟩, nSa, nSb⟩
  · obtain ⟨m1, m2, m3, m4⟩ := hm.1 x nd e
    obtain ⟨o, eo⟩ := Option.ne_none_iff_exists'.mp m1.there
    exact ⟨m1.move ((sm x o (m3 (a, b) rfl).1 (m3 (a, b) rfl).2 eo).trans eo.symm), m2, .inl (by rw [e]; exact fun z => nomatch z)⟩
section
variable {P : Program} {w : World} {K : PySem.W.Frag} {mg : Str → Option Value} {base : Heap}
abbrev sDraw : Stmt := topS 25
theorem sc_draw : FnScope ["_law_deck_here", "_law_many", "_law_cell", "_law_number"] ["_law_deck_here", "_law_many"] (defScope sDraw) := ⟨rfl, rfl, rfl, by decide +kernel, rfl, by decide +kernel, by decide +kernel⟩
set_option maxHeartbeats 0 in
theorem ok_draw {k : Nat} {f : Addr} {fd : FuncData} {T : List (Addr × Str)} {mgl : Str → Option Value} {bb : Bool} (F : Fun K "_law_draw" "_law_draw" sDraw f fd) :
    FnG P w K mg base (k + 1) f fd ["_law_deck_here", "_law_many"] (spM ((deckG.wt T mgl).wc bb) K mg 2 drawM) := by
  refine FnG.of_body F sc_draw (fun vs H Q E ⟨S, pen, args, n, P, PX, hl, _, _, _, _, r, _⟩ => r.len.trans hl) fun cdv A outer s H vs Q E hg hr ⟨S, pen, args, n, Pd, PX, hl, dom, hp, htb, hmu, r, q, hq, hx⟩ => ?_
  obtain ⟨b, rfl, hn, hb0, hb1, q⟩ := drawM_inv q
  obtain ⟨v1, ws1, rfl, ⟨p, rfl, rfl⟩, v2, ws2, rfl, e4, e5⟩ := r
  obtain rfl : ws2 = [] := e5
  obtain rfl : v2 = V.int b := e4
  obtain ⟨⟨hne, cs, t, g, ha, hb, hcs, ht, ht2, hg0, hgn⟩, nS1, nS2⟩ := hp p rfl
  obtain ⟨a, ca⟩ := p
  have nd := sc_draw.nd
  have g2 : g < 4000000 := by unfold drawMax at hn; omega
  have gg0 : (0 : Int) ≤ (g + 1) * (g + 1) := Int.mul_nonneg (by omega) (by omega)
  have gg1 : (g + 1) * (g + 1) ≤ 4000001 * 4000001 := sq_le (by omega) (by omega)
  have m0 : ∀ y M : Int, 0 < M → 0 ≤ y % M ∧ y % M < M := fun y M h => ⟨Int.emod_nonneg _ (by omega), Int.emod_lt_of_pos _ h⟩
  -- the end, from any cell
  obtain ⟨u, U, hU⟩ : ∃ u, PSs (cxOf (L2.CX P w) P w K mg base ["_law_deck_here", "_law_many", "_law_cell", "_law_number"] "_law_draw" (defScope sDraw) f cdv A outer s H E) ((defBody sDraw).drop 3) u ∧
      ∀ (z : Int) (ds : List Int) (H2 : Hp), ds.length ≤ 63 → H2 a = some (.lst [.ref ca, .int t, .int (g + 1)]) → H2 ca = some (.lst (ds.map V.int)) → (∀ x o, x ≠ a → x ≠ ca → H x = some o → H2 x = some o) → u { nx := fun _ H' => Q .non H', rt := Q } [some (.ref a), some (.int b), some (.int z), none] H2 := by
    refine ⟨_, pss_cons (ps_set (i := 3) nd rfl (.inl rfl) (pe_op op_mod (pe_op op_mul (pe_op op_add (pe_op op_add (pe_op op_mod (pv 2) pe_int) (pe_op op_mul (pe_op op_mul pe_int (pe_ix ix_list (pv 0) pe_int (fun _ _ => rfl))) (pe_ix ix_list (pv 0) pe_int (fun _ _ => rfl)))) pe_int) pe_int) pe_int))
    (pss_cons (ps_set (i := 3) nd rfl (.inl rfl) (pe_op op_mod (pe_op op_add (pe_op op_add (pe_op op_mul (pv 3) (pv 3)) (pe_op op_mul pe_int (pe_ix ix_list (pv 0) pe_int (fun _ _ => rfl)))) pe_int) pe_int))
    (pss_one (ps_ret (pe_op op_mod (pe_op op_fdiv (pe_op op_mod (pe_op op_mul (pv 3) pe_int) pe_int) pe_int) (pv 1))))), fun z ds H2 hds h2a h2b h2 => ?_⟩
    refine ⟨_, rfl, _, _, rfl, rfl, (by show (0 : Int) < _; decide), rd_ix 2 rfl h2a rfl ⟨_, _, rfl, rfl, .inl ⟨by decide, by decide⟩, rd_ix 2 rfl h2a rfl ⟨_, _, rfl, rfl, .inr ⟨by omega, by omega⟩, _, _, rfl, rfl, _, _, rfl, rfl, _, _, rfl, rfl, .inr ⟨by decide, by decide⟩, _, _, rfl, rfl, (by show (0 : Int) < _; decide), ?_⟩⟩⟩
    generalize hx1 : (z % 2147483629 + 104729 * (g + 1) * (g + 1) + 31) * 48271 % 2147483647 = x1
    have q1 : 0 ≤ x1 ∧ x1 < 2147483647 := hx1 ▸ m0 _ _ (by decide)
    refine ⟨_, rfl, _, rfl, _, _, rfl, rfl, .inl ⟨by omega, by omega⟩, rd_ix 2 rfl h2a rfl ⟨_, _, rfl, rfl, .inl ⟨by decide, by decide⟩, _, _, rfl, rfl, _, _, rfl, rfl, _, _, rfl, rfl, (by show (0 : Int) < _; decide), ?_⟩⟩
    generalize hx2 : (x1 * x1 + 69621 * (g + 1) + 11) % 2147483587 = x2
    refine ⟨_, rfl, _, _, rfl, rfl, .inr ⟨by decide, by decide⟩, _, _, rfl, rfl, (by show (0 : Int) < _; decide), _, _, rfl, rfl, ⟨by decide, by decide⟩, _, rfl, _, _, rfl, rfl, hb0, ?_⟩
    exact hq (.int _) ⟨n.n + 1, n.μ⟩ _ S H2 (q _ (n.n + 1) (Int.emod_nonneg _ (by omega)) (Int.emod_lt_of_pos _ hb0) (by omega) (Nat.le_refl _)) (After.deck hne dom nS1 nS2 htb ⟨_, ha⟩ ⟨_, hb⟩ hmu h2 h2a h2b hds ht ht2 (by omega) (by omega)) rfl
  refine ⟨_, pss_cons (ps_asg (pe_op op_add (pe_ix ix_list (pv 0) pe_int (fun _ _ => rfl)) pe_int) (pg_sub (pv 0) pe_int set_list))
    (pss_cons (ps_set (i := 2) nd rfl (.inl rfl) (pe_ix ix_list (pv 0) pe_int (fun _ _ => rfl)))
    (pss_cons (ps_if (pt_cmpR (op_neD (u64 hr)) (pe_ix ix_list (pv 0) pe_int (fun _ _ => rfl)) (pe_lst pa_nil) (nomark _))
      (pss_cons (ps_set (i := 2) nd rfl (.inl rfl) (pe_bm0 PySem.F.plainAttrs_list PySem.F.slot_list_pop PySem.F.type_list_pop mt_pop (pe_ix ix_list (pv 0) pe_int (fun _ _ => rfl))))
      (pss_cons (ps_if (pt_cmpR op_ge (pv 2) (pe_op op_pow pe_int pe_int) (nomark _))
        (pss_cons (ps_expr (pe_bm PySem.F.plainAttrs_list PySem.F.slot_list_append PySem.F.type_list_append mt_append (pe_ix ix_list (pv 0) pe_int (fun _ _ => rfl)) (pa_cons (pe_op op_fdiv (pv 2) (pv 1)) pa_nil)))
        (pss_one (ps_ret (pe_op op_mod (pv 2) (pv 1))))) pss_nil)
      (pss_one (ps_set (i := 2) nd rfl (.inl rfl) (pe_op op_add (pv 2) (pe_ix ix_list (pv 0) pe_int (fun _ _ => rfl))))))) pss_nil) U)), ?_⟩
  refine rd_ix 2 rfl ha rfl ⟨_, _, rfl, rfl, wr_ix 2 rfl ha (by show 2 < 3; omega) ?_⟩
  have ha1 : upd H a (.lst [.ref ca, .int t, .int (g + 1)]) a = some (.lst [.ref ca, .int t, .int (g + 1)]) := upd_same
  have h1 : ∀ x o, x ≠ a → H x = some o → upd H a (.lst [.ref ca, .int t, .int (g + 1)]) x = some o := fun x o hx e => by rw [upd_ne hx]; exact e
  refine rd_ix 1 rfl ha1 rfl ?_
  refine rd_ix 0 rfl ha1 rfl ⟨Nat.zero_le _, fun p hp => ?_⟩
  have ap : a ≠ p := ne_of_none ha1 hp
  have ha2 : upd (upd H a (.lst [.ref ca, .int t, .int (g + 1)])) p (.lst []) a = some (.lst [.ref ca, .int t, .int (g + 1)]) := by rw [upd_ne ap]; exact ha1
  have h2 : ∀ x o, x ≠ a → H x = some o → upd (upd H a (.lst [.ref ca, .int t, .int (g + 1)])) p (.lst []) x = some o := fun x o hx e => by
    have e1 := h1 x o hx e
    rw [upd_ne (ne_of_none e1 hp)]
    exact e1
  have hb2 := h2 ca _ (Ne.symm hne) hb
  refine ⟨.list (cs.map PyData.int), .list [], .lst (SqL.of hb2) (dp_ints cs), .lst (SqL.of upd_same) .nil, shaped_ints cs, by decide +kernel, _, rfl, ite2 (fun he => ?_) (fun he => hU t cs _ hcs ha2 hb2 fun x o hx _ e => h2 x o hx e)⟩
  rw [eqv_nil] at he
  have hpos : 0 < cs.length := by
    cases cs with
    | nil => simp at he
    | cons _ _ => exact Nat.zero_lt_succ _
  have hl : cs.length - 1 < cs.length := by omega
  have ey : (cs.map V.int)[(cs.map V.int).length - 1]? = some (.int cs[cs.length - 1]) := by rw [List.length_map, List.getElem?_map, List.getElem?_eq_getElem hl]; rfl
  refine rd_ix 0 rfl ha2 rfl ⟨.inl ⟨rfl, _, SqL.of hb2⟩, ca, _, _, rfl, rfl, hb2, ey, ?_⟩
  rw [← List.map_dropLast]
  have ha3 : upd (upd (upd H a (.lst [.ref ca, .int t, .int (g + 1)])) p (.lst [])) ca (.lst (cs.dropLast.map V.int)) a = some (.lst [.ref ca, .int t, .int (g + 1)]) := by rw [upd_ne hne]; exact ha2
  have hb3 : upd (upd (upd H a (.lst [.ref ca, .int t, .int (g + 1)])) p (.lst [])) ca (.lst (cs.dropLast.map V.int)) ca = some (.lst (cs.dropLast.map V.int)) := upd_same
  have h3 : ∀ x o, x ≠ a → x ≠ ca → H x = some o → upd (upd (upd H a (.lst [.ref ca, .int t, .int (g + 1)])) p (.lst [])) ca (.lst (cs.dropLast.map V.int)) x = some o := fun x o hx hy e => by
    rw [upd_ne hy]
    exact h2 x o hx e
  have hdl : cs.dropLast.length = cs.length - 1 := List.length_dropLast
  refine ⟨_, rfl, _, _, rfl, rfl, ⟨by decide, by decide, by decide⟩, _, _, rfl, rfl, _, rfl, ite2 (fun hc => ?_) (fun hc => ?_)⟩
  · refine rd_ix 0 rfl ha3 rfl ⟨.inl ⟨rfl, _, SqL.of hb3⟩, _, rfl, _, rfl, _, _, rfl, rfl, ⟨hb0, hb1⟩, ca, _, _, rfl, rfl, hb3, by rw [List.length_map, hdl, sizeLine_eq]; omega, _, rfl, _, rfl, _, _, rfl, rfl, hb0, ?_⟩
    rw [show (cs.dropLast.map V.int) ++ [V.int (cs[cs.length - 1] / b)] = (cs.dropLast ++ [cs[cs.length - 1] / b]).map V.int by simp, upd_upd]
    exact hq (.int _) ⟨n.n + 1, n.μ⟩ _ S _ (q _ (n.n + 1) (Int.emod_nonneg _ (by omega)) (Int.emod_lt_of_pos _ hb0) (by omega) (Nat.le_refl _)) (After.deck (cs := cs.dropLast ++ [cs[cs.length - 1] / b]) hne dom nS1 nS2 htb ⟨_, ha⟩ ⟨_, hb⟩ hmu (fun x o hx hy e => by rw [upd_ne hy]; exact h2 x o hx e) (by rw [upd_ne hne]; exact ha2) upd_same (by rw [List.length_append, hdl]; show cs.length - 1 + 1 ≤ 63; omega) ht ht2 (by omega) (by omega)) rfl
  · exact ⟨_, rfl, rd_ix 1 rfl ha3 rfl ⟨_, _, rfl, rfl, hU _ cs.dropLast _ (by omega) ha3 hb3 h3⟩⟩
end
section
variable {P : Program} {w : World} {K : PySem.W.Frag} {mg : Str → Option Value} {base : Heap}
set_option maxHeartbeats 0 in
theorem ok_l_deck {f : Addr} {fd : FuncData} {T : List (Addr × Str)} {mgl : Str → Option Value} {bb : Bool} (F : Fun K "_law_deck" "_law_deck" (topS 24) f fd) (ml : mg "list" = none) : FnG P w K mg base 1 f fd ["_law_script"] (spFeedK ((deckG.wt T mgl).wc bb) K) := by
  have sc : FnScope ["_law_script", "_law_cells", "_law_total", "_law_cell"] ["_law_script"] (defScope (topS 24)) := ⟨rfl, rfl, rfl, by decide +kernel, rfl, by decide +kernel, by decide +kernel⟩
  refine FnG.of_body F sc (fun vs H Q E ⟨a, ns, e, _⟩ => by rw [e]; rfl) fun cdv A outer s H vs Q E hg hr ⟨a, ns, e, hS, hl, q⟩ => ?_
  subst e
  have nd := sc.nd
  refine ⟨_, pss_cons (ps_set (i := 1) nd rfl (.inl rfl) (pe_callTy call_list_of (by rfl) ml PyProof.Rows.boot_list (pa_cons (pe_slice sl_list (pv 0) po_none (po_some pe_int)) pa_nil)))
    (pss_cons (ps_set (i := 2) nd rfl (.inl rfl) pe_int)
    (pss_cons (ps_for (passes_of rfl) rfl (pi_list (pv 1)) (pg_name (i := 3) nd rfl (.inl rfl) (.inr rfl)) (pss_one (ps_set (i := 2) nd rfl (.inl rfl) (pe_op op_mod (pe_op op_add (pe_op op_add (pe_op op_mul (pv 2) pe_int) (pe_op op_mod (pv 3) pe_int)) pe_int) pe_int))))
    (pss_one (ps_ret (pe_lst (pa_cons (pe_rev (pv 1)) (pa_cons (pv 2) (pa_cons pe_int pa_nil)))))))), ?_⟩
  have hc : cutV (ns.map V.int) none (some 63) = ns.map V.int := by
    unfold cutV
    rw [HT.sIx_none, show (63 : Int) = ((63 : Nat) : Int) from rfl, HT.sIx_nat, List.length_map, Nat.min_eq_right hl, Nat.sub_zero, List.drop_zero, List.take_of_length_le (by rw [List.length_map]; exact Nat.le_refl _)]
  refine ⟨.ref a, rfl, ?_⟩
  refine ⟨63, rfl, a, _, rfl, hS, fun b hb => ⟨b, _, rfl, .inl (SqL.of upd_same), fun l hl2 => ?_⟩⟩
  rw [hc] at hl2 ⊢
  refine ⟨.ref l, rfl, l, rfl, ⟨_, SqL.of upd_same⟩, for_list (fun _ σ H' => ∃ (t : Int) (x : Option V), 0 ≤ t ∧ t < 2147483648 ∧ σ = [some (.ref a), some (.ref l), some (.int t), x] ∧ H' l = some (.lst (ns.map V.int)) ∧ ∀ P ps, H P = some (.tbl ps) → H' P = some (.tbl ps)) ⟨4099, none, by decide, by decide, rfl, upd_same, fun P ps e => (have e1 := (upd_ne (ne_of_none e hb)).trans e; (upd_ne (ne_of_none e1 hl2)).trans e1)⟩ (fun i σ H' _ ⟨_, _, _, _, _, h, _⟩ => SqL.of h) (fun i x σ H2 hx ⟨t, x0, t0, t1, es, h⟩ => ?_) fun σ H2 ⟨t, x0, t0, t1, es, h, hkt⟩ => ?_⟩
  · subst es
    rw [List.getElem?_map] at hx
    cases e : ns[i]? with
    | none => rw [e] at hx; cases hx
    | some c =>
      rw [e] at hx
      cases hx
      exact ⟨_, rfl, _, _, rfl, rfl, .inr ⟨by decide, by decide⟩, _, rfl, _, _, rfl, rfl, (by show (0 : Int) < _; decide), _, _, rfl, rfl, _, _, rfl, rfl, _, _, rfl, rfl, (by show (0 : Int) < _; decide), _, _, Int.emod_nonneg _ (by decide), Int.lt_of_lt_of_le (Int.emod_lt_of_pos _ (by decide)) (by decide), rfl, h⟩
  · subst es
    refine ⟨.ref l, rfl, .inl ⟨l, _, rfl, SqL.of h, fun r hr2 => ⟨_, rfl, ⟨(by show 3 ≤ sizeLine; rw [sizeLine_eq]; decide), fun p hp => ?_⟩⟩⟩⟩
    have rp : p ≠ r := fun z => by rw [z, upd_same] at hp; cases hp
    refine q _ p r ⟨rp, ns.reverse, t, 0, upd_same, ?_, by rw [List.length_reverse]; exact hl, t0, t1, Int.le_refl _, Int.le_refl _⟩ (fun P ps e => (have e1 := (upd_ne (ne_of_none (hkt P ps e) hr2)).trans (hkt P ps e); (upd_ne (ne_of_none e1 hp)).trans e1))
    rw [upd_ne (Ne.symm rp), upd_same, List.map_reverse]
end
abbrev s_is_integer : Stmt := topS 4
abbrev s_is_between : Stmt := topS 5
abbrev s_is_word : Stmt := topS 6
abbrev s_is_value : Stmt := topS 7
abbrev s_is_command : Stmt := topS 14
abbrev s_is_try : Stmt := topS 20
abbrev s_parts_of : Stmt := topS 21
abbrev s_is_program : Stmt := topS 22
abbrev s_l_deck : Stmt := topS 24
abbrev s_l_draw : Stmt := topS 25
abbrev s_l_pick : Stmt := topS 26
abbrev s_l_labels : Stmt := topS 27
abbrev s_l_entry : Stmt := topS 28
abbrev s_l_command : Stmt := topS 29
abbrev s_l_block : Stmt := topS 30
abbrev s_l_whole : Stmt := topS 31
abbrev s_l_label : Stmt := topS 32
abbrev s_l_is_command : Stmt := topS 33
abbrev s_l_counted : Stmt := topS 34
abbrev s_l_due : Stmt := topS 35
abbrev s_l_strange : Stmt := topS 36
abbrev s_l_bent : Stmt := topS 37
abbrev s_l_nested : Stmt := topS 38
abbrev s_law : Stmt := topS 39
abbrev sc_is_integer_N : List Str := ["value"]
theorem sc_is_integer : FnScope sc_is_integer_N ["value"] (defScope s_is_integer) := ⟨rfl, rfl, rfl, by decide +kernel, rfl, by decide +kernel, by decide +kernel⟩
abbrev sc_is_between_N : List Str := ["value", "least", "most"]
theorem sc_is_between : FnScope sc_is_between_N ["value", "least", "most"] (defScope s_is_between) := ⟨rfl, rfl, rfl, by decide +kernel, rfl, by decide +kernel, by decide +kernel⟩
abbrev sc_is_word_N : List Str := ["value", "sign"]
theorem sc_is_word : FnScope sc_is_word_N ["value"] (defScope s_is_word) := ⟨rfl, rfl, rfl, by decide +kernel, rfl, by decide +kernel, by decide +kernel⟩
abbrev sc_is_value_N : List Str := ["value"]
theorem sc_is_value : FnScope sc_is_value_N ["value"] (defScope s_is_value) := ⟨rfl, rfl, rfl, by decide +kernel, rfl, by decide +kernel, by decide +kernel⟩
abbrev sc_is_command_N : List Str := ["value"]
theorem sc_is_command : FnScope sc_is_command_N ["value"] (defScope s_is_command) := ⟨rfl, rfl, rfl, by decide +kernel, rfl, by decide +kernel, by decide +kernel⟩
abbrev sc_is_try_N : List Str := ["value"]
theorem sc_is_try : FnScope sc_is_try_N ["value"] (defScope s_is_try) := ⟨rfl, rfl, rfl, by decide +kernel, rfl, by decide +kernel, by decide +kernel⟩
abbrev sc_parts_of_N : List Str := ["value", "depth", "commands", "tries", "item", "inner", "block", "part"]
theorem sc_parts_of : FnScope sc_parts_of_N ["value", "depth"] (defScope s_parts_of) := ⟨rfl, rfl, rfl, by decide +kernel, rfl, by decide +kernel, by decide +kernel⟩
abbrev sc_is_program_N : List Str := ["value", "parts"]
theorem sc_is_program : FnScope sc_is_program_N ["value"] (defScope s_is_program) := ⟨rfl, rfl, rfl, by decide +kernel, rfl, by decide +kernel, by decide +kernel⟩
abbrev sc_l_deck_N : List Str := ["_law_script"]
theorem sc_l_deck : FnScope sc_l_deck_N ["_law_script"] (defScope s_l_deck) := ⟨rfl, rfl, rfl, by decide +kernel, rfl, by decide +kernel, by decide +kernel⟩
abbrev sc_l_pick_N : List Str := ["_law_deck_here", "_law_some"]
theorem sc_l_pick : FnScope sc_l_pick_N ["_law_deck_here", "_law_some"] (defScope s_l_pick) := ⟨rfl, rfl, rfl, by decide +kernel, rfl, by decide +kernel, by decide +kernel⟩
abbrev sc_l_labels_N : List Str := ["_law_deck_here", "_law_many", "_law_letters", "_law_way", "_law_begin", "_law_k", "_law_stem", "_law_found", "_law_sign"]
theorem sc_l_labels : FnScope sc_l_labels_N ["_law_deck_here", "_law_many"] (defScope s_l_labels) := ⟨rfl, rfl, rfl, by decide +kernel, rfl, by decide +kernel, by decide +kernel⟩
abbrev sc_l_entry_N : List Str := ["_law_deck_here"]
theorem sc_l_entry : FnScope sc_l_entry_N ["_law_deck_here"] (defScope s_l_entry) := ⟨rfl, rfl, rfl, by decide +kernel, rfl, by decide +kernel, by decide +kernel⟩
abbrev sc_l_command_N : List Str := ["_law_deck_here", "_law_keys", "_law_labels_here", "_law_way"]
theorem sc_l_command : FnScope sc_l_command_N ["_law_deck_here", "_law_keys", "_law_labels_here"] (defScope s_l_command) := ⟨rfl, rfl, rfl, by decide +kernel, rfl, by decide +kernel, by decide +kernel⟩
abbrev sc_l_block_N : List Str := ["_law_deck_here", "_law_keys", "_law_labels_here", "_law_room", "_law_depth", "_law_items", "_law_k", "_law_one"]
theorem sc_l_block : FnScope sc_l_block_N ["_law_deck_here", "_law_keys", "_law_labels_here", "_law_room", "_law_depth"] (defScope s_l_block) := ⟨rfl, rfl, rfl, by decide +kernel, rfl, by decide +kernel, by decide +kernel⟩
abbrev sc_l_whole_N : List Str := ["_law_item"]
theorem sc_l_whole : FnScope sc_l_whole_N ["_law_item"] (defScope s_l_whole) := ⟨rfl, rfl, rfl, by decide +kernel, rfl, by decide +kernel, by decide +kernel⟩
abbrev sc_l_label_N : List Str := ["_law_item", "_law_sign"]
theorem sc_l_label : FnScope sc_l_label_N ["_law_item"] (defScope s_l_label) := ⟨rfl, rfl, rfl, by decide +kernel, rfl, by decide +kernel, by decide +kernel⟩
abbrev sc_l_is_command_N : List Str := ["_law_item"]
theorem sc_l_is_command : FnScope sc_l_is_command_N ["_law_item"] (defScope s_l_is_command) := ⟨rfl, rfl, rfl, by decide +kernel, rfl, by decide +kernel, by decide +kernel⟩
abbrev sc_l_counted_N : List Str := ["_law_thing", "_law_depth", "_law_total", "_law_item", "_law_one", "_law_two"]
theorem sc_l_counted : FnScope sc_l_counted_N ["_law_thing", "_law_depth"] (defScope s_l_counted) := ⟨rfl, rfl, rfl, by decide +kernel, rfl, by decide +kernel, by decide +kernel⟩
abbrev sc_l_due_N : List Str := ["_law_thing", "_law_total"]
theorem sc_l_due : FnScope sc_l_due_N ["_law_thing"] (defScope s_l_due) := ⟨rfl, rfl, rfl, by decide +kernel, rfl, by decide +kernel, by decide +kernel⟩
abbrev sc_l_strange_N : List Str := ["_law_deck_here", "_law_some"]
theorem sc_l_strange : FnScope sc_l_strange_N ["_law_deck_here"] (defScope s_l_strange) := ⟨rfl, rfl, rfl, by decide +kernel, rfl, by decide +kernel, by decide +kernel⟩
abbrev sc_l_bent_N : List Str := ["_law_deck_here", "_law_thing", "_law_items", "_law_at", "_law_k", "_law_deeper", "_law_side", "_law_item", "_law_inner", "_law_fresh", "_law_skipped"]
theorem sc_l_bent : FnScope sc_l_bent_N ["_law_deck_here", "_law_thing"] (defScope s_l_bent) := ⟨rfl, rfl, rfl, by decide +kernel, rfl, by decide +kernel, by decide +kernel⟩
abbrev sc_l_nested_N : List Str := ["_law_depth", "_law_found", "_law_k"]
theorem sc_l_nested : FnScope sc_l_nested_N ["_law_depth"] (defScope s_l_nested) := ⟨rfl, rfl, rfl, by decide +kernel, rfl, by decide +kernel, by decide +kernel⟩
abbrev sc_law_N : List Str := ["_law_script", "_law_deck_here", "_law_turn", "_law_labels_here", "_law_block_here", "_law_some", "_law_other", "_law_thing", "_law_kept", "_law_due_here", "_law_told", "_law_many", "_law_tries", "_law_good", "_law_bad", "_law_k"]
theorem sc_law : FnScope sc_law_N ["_law_script"] (defScope s_law) := ⟨rfl, rfl, rfl, by decide +kernel, rfl, by decide +kernel, by decide +kernel⟩
structure Facts (K : PySem.W.Frag) (mg : Str → Option Value) where
  z_abs : mg "abs" = none
  z_all : mg "all" = none
  z_bool : mg "bool" = none
  z_int : mg "int" = none
  z_isinstance : mg "isinstance" = none
  z_len : mg "len" = none
  z_list : mg "list" = none
  z_range : mg "range" = none
  z_repr : mg "repr" = none
  z_str : mg "str" = none
  z_sum : mg "sum" = none
  z_tuple : mg "tuple" = none
  c_BACK : ∃ t, mg "BACK" = some (.str "back" t)
  c_DEEPEST_TRY : ∃ t, mg "DEEPEST_TRY" = some (.int 3 t)
  c_DEL : ∃ t, mg "DEL" = some (.str "del" t)
  c_GREATEST_VALUE : ∃ t, mg "GREATEST_VALUE" = some (.int 1000000000000000000 t)
  c_KEEP : ∃ t, mg "KEEP" = some (.str "keep" t)
  c_LETTERS : ∃ t, mg "LETTERS" = some (.str "abcdefghijklmnopqrstuvwxyz" t)
  c_LONGEST_WORD : ∃ t, mg "LONGEST_WORD" = some (.int 8 t)
  c_MARK : ∃ t, mg "MARK" = some (.str "mark" t)
  c_MOST_TRIED_COMMANDS : ∃ t, mg "MOST_TRIED_COMMANDS" = some (.int 20 t)
  c_MOST_TRIES : ∃ t, mg "MOST_TRIES" = some (.int 4 t)
  c_SET : ∃ t, mg "SET" = some (.str "set" t)
  c_TRY : ∃ t, mg "TRY" = some (.str "try" t)
  f_is_integer : Addr
  d_is_integer : FuncData
  F_is_integer : Fun K "is_integer" "is_integer" s_is_integer f_is_integer d_is_integer
  g_is_integer : mg "is_integer" = some (.ref f_is_integer)
  B_is_integer : Binds K d_is_integer ["value"] []
  f_is_between : Addr
  d_is_between : FuncData
  F_is_between : Fun K "is_between" "is_between" s_is_between f_is_between d_is_between
  g_is_between : mg "is_between" = some (.ref f_is_between)
  B_is_between : Binds K d_is_between ["value", "least", "most"] []
  f_is_word : Addr
  d_is_word : FuncData
  F_is_word : Fun K "is_word" "is_word" s_is_word f_is_word d_is_word
  g_is_word : mg "is_word" = some (.ref f_is_word)
  B_is_word : Binds K d_is_word ["value"] []
  f_is_value : Addr
  d_is_value : FuncData
  F_is_value : Fun K "is_value" "is_value" s_is_value f_is_value d_is_value
  g_is_value : mg "is_value" = some (.ref f_is_value)
  B_is_value : Binds K d_is_value ["value"] []
  f_is_command : Addr
  d_is_command : FuncData
  F_is_command : Fun K "is_command" "is_command" s_is_command f_is_command d_is_command
  g_is_command : mg "is_command" = some (.ref f_is_command)
  B_is_command : Binds K d_is_command ["value"] []
  f_is_try : Addr
  d_is_try : FuncData
  F_is_try : Fun K "is_try" "is_try" s_is_try f_is_try d_is_try
  g_is_try : mg "is_try" = some (.ref f_is_try)
  B_is_try : Binds K d_is_try ["value"] []
  f_parts_of : Addr
  d_parts_of : FuncData
  F_parts_of : Fun K "parts_of" "parts_of" s_parts_of f_parts_of d_parts_of
  g_parts_of : mg "parts_of" = some (.ref f_parts_of)
  B_parts_of : Binds K d_parts_of ["value", "depth"] []
  f_is_program : Addr
  d_is_program : FuncData
  F_is_program : Fun K "is_program" "is_program" s_is_program f_is_program d_is_program
  g_is_program : mg "is_program" = some (.ref f_is_program)
  B_is_program : Binds K d_is_program ["value"] []
  f_l_deck : Addr
  d_l_deck : FuncData
  F_l_deck : Fun K "_law_deck" "_law_deck" s_l_deck f_l_deck d_l_deck
  g_l_deck : mg "_law_deck" = some (.ref f_l_deck)
  B_l_deck : Binds K d_l_deck ["_law_script"] []
  f_l_draw : Addr
  d_l_draw : FuncData
  F_l_draw : Fun K "_law_draw" "_law_draw" s_l_draw f_l_draw d_l_draw
  g_l_draw : mg "_law_draw" = some (.ref f_l_draw)
  B_l_draw : Binds K d_l_draw ["_law_deck_here", "_law_many"] []
  f_l_pick : Addr
  d_l_pick : FuncData
  F_l_pick : Fun K "_law_pick" "_law_pick" s_l_pick f_l_pick d_l_pick
  g_l_pick : mg "_law_pick" = some (.ref f_l_pick)
  B_l_pick : Binds K d_l_pick ["_law_deck_here", "_law_some"] []
  f_l_labels : Addr
  d_l_labels : FuncData
  F_l_labels : Fun K "_law_labels" "_law_labels" s_l_labels f_l_labels d_l_labels
  g_l_labels : mg "_law_labels" = some (.ref f_l_labels)
  B_l_labels : Binds K d_l_labels ["_law_deck_here", "_law_many"] []
  f_l_entry : Addr
  d_l_entry : FuncData
  F_l_entry : Fun K "_law_entry" "_law_entry" s_l_entry f_l_entry d_l_entry
  g_l_entry : mg "_law_entry" = some (.ref f_l_entry)
  B_l_entry : Binds K d_l_entry ["_law_deck_here"] []
  f_l_command : Addr
  d_l_command : FuncData
  F_l_command : Fun K "_law_command" "_law_command" s_l_command f_l_command d_l_command
  g_l_command : mg "_law_command" = some (.ref f_l_command)
  B_l_command : Binds K d_l_command ["_law_deck_here", "_law_keys", "_law_labels_here"] []
  f_l_block : Addr
  d_l_block : FuncData
  F_l_block : Fun K "_law_block" "_law_block" s_l_block f_l_block d_l_block
  g_l_block : mg "_law_block" = some (.ref f_l_block)
  B_l_block : Binds K d_l_block ["_law_deck_here", "_law_keys", "_law_labels_here", "_law_room", "_law_depth"] []
  f_l_whole : Addr
  d_l_whole : FuncData
  F_l_whole : Fun K "_law_whole" "_law_whole" s_l_whole f_l_whole d_l_whole
  g_l_whole : mg "_law_whole" = some (.ref f_l_whole)
  B_l_whole : Binds K d_l_whole ["_law_item"] []
  f_l_label : Addr
  d_l_label : FuncData
  F_l_label : Fun K "_law_label" "_law_label" s_l_label f_l_label d_l_label
  g_l_label : mg "_law_label" = some (.ref f_l_label)
  B_l_label : Binds K d_l_label ["_law_item"] []
  f_l_is_command : Addr
  d_l_is_command : FuncData
  F_l_is_command : Fun K "_law_is_command" "_law_is_command" s_l_is_command f_l_is_command d_l_is_command
  g_l_is_command : mg "_law_is_command" = some (.ref f_l_is_command)
  B_l_is_command : Binds K d_l_is_command ["_law_item"] []
  f_l_counted : Addr
  d_l_counted : FuncData
  F_l_counted : Fun K "_law_counted" "_law_counted" s_l_counted f_l_counted d_l_counted
  g_l_counted : mg "_law_counted" = some (.ref f_l_counted)
  B_l_counted : Binds K d_l_counted ["_law_thing", "_law_depth"] []
  f_l_due : Addr
  d_l_due : FuncData
  F_l_due : Fun K "_law_due" "_law_due" s_l_due f_l_due d_l_due
  g_l_due : mg "_law_due" = some (.ref f_l_due)
  B_l_due : Binds K d_l_due ["_law_thing"] []
  f_l_strange : Addr
  d_l_strange : FuncData
  F_l_strange : Fun K "_law_strange" "_law_strange" s_l_strange f_l_strange d_l_strange
  g_l_strange : mg "_law_strange" = some (.ref f_l_strange)
  B_l_strange : Binds K d_l_strange ["_law_deck_here"] []
  f_l_bent : Addr
  d_l_bent : FuncData
  F_l_bent : Fun K "_law_bent" "_law_bent" s_l_bent f_l_bent d_l_bent
  g_l_bent : mg "_law_bent" = some (.ref f_l_bent)
  B_l_bent : Binds K d_l_bent ["_law_deck_here", "_law_thing"] []
  f_l_nested : Addr
  d_l_nested : FuncData
  F_l_nested : Fun K "_law_nested" "_law_nested" s_l_nested f_l_nested d_l_nested
  g_l_nested : mg "_law_nested" = some (.ref f_l_nested)
  B_l_nested : Binds K d_l_nested ["_law_depth"] []
  f_law : Addr
  d_law : FuncData
  F_law : Fun K "law" "law" s_law f_law d_law
  g_law : mg "law" = some (.ref f_law)
  B_law : Binds K d_law ["_law_script"] []
abbrev Facts.tb {K : PySem.W.Frag} {mg : Str → Option Value} (T : Facts K mg) : List (Addr × Str) := []
section
variable {P : Program} {w : World} {K : PySem.W.Frag} {mg : Str → Option Value} {base : Heap} (T : Facts K mg)
include T
theorem ok_l_draw : FnG P w K mg base 1 T.f_l_draw T.d_l_draw ["_law_deck_here", "_law_many"] (spM ((deckG.wt T.tb mg).wc true) K mg 2 drawM) := ok_draw T.F_l_draw
end
end Q42

namespace Q42
open PySem PySem.Spec L2 PL
section
variable {P : Program} {w : World} {K : PySem.W.Frag} {mg : Str → Option Value} {base : Heap} (T : Facts K mg)
include T
set_option maxHeartbeats 0 in
theorem ok_is_integer : FnG P w K mg base 1 T.f_is_integer T.d_is_integer ["value"] (spM ((deckG.wt T.tb mg).wc true) K mg 1 m_is_integer) := by
  have nd := sc_is_integer.nd
  refine fn_okG (m := m_is_integer) (Sh := fun args => ∃ value : D, args = [.d value]) T.F_is_integer sc_is_integer (by decide) (fun args n P PX h => ?_) ?_
  · unfold m_is_integer at h; split at h
    all_goals first | exact ⟨_, rfl⟩ | exact False.elim h
  · rintro args ⟨value, rfl⟩ cdv A outer s H E Wx hg hr tk po
    show SG _ _ _ _ _ EnT (d_is_integer value)
    unfold d_is_integer
    exact (sg_retT (e_and (e_isi .int (T.z_isinstance) (T.z_int) (by decide +kernel) (e_nm 0)) (e_one (e_not (e_isi .bool (T.z_isinstance) (T.z_bool) (by decide +kernel) (e_nm 0))))) rfl (fun _ => rfl))
end
end Q42

namespace Q42
open PySem PySem.Spec L2 PL
section
variable {P : Program} {w : World} {K : PySem.W.Frag} {mg : Str → Option Value} {base : Heap} (T : Facts K mg)
include T
set_option maxHeartbeats 0 in
theorem ok_is_between : FnG P w K mg base 2 T.f_is_between T.d_is_between ["value", "least", "most"] (spM ((deckG.wt T.tb mg).wc true) K mg 3 m_is_between) := by
  have nd := sc_is_between.nd
  refine fn_okG (m := m_is_between) (Sh := fun args => ∃ value : D, ∃ least : D, ∃ most : D, args = [.d value, .d least, .d most]) T.F_is_between sc_is_between (by decide) (fun args n P PX h => ?_) ?_
  · unfold m_is_between at h; split at h
    all_goals first | exact ⟨_, _, _, rfl⟩ | exact False.elim h
  · rintro args ⟨value, least, most, rfl⟩ cdv A outer s H E Wx hg hr tk po
    show SG _ _ _ _ _ EnT (d_is_between value least most)
    unfold d_is_between
    exact (sg_retT (e_and (e_call (ps := ["value"]) ⟨ok_is_integer T, T.g_is_integer, T.F_is_integer.kp⟩ hg (hr.mono (by decide)) tk T.B_is_integer (v_cons (e_nm 0) (v_nil))) (e_one (e_chain (cm_le) (cm_le) (e_nm 1) (e_nm 0) (e_nm 2)))) rfl (fun _ => rfl))
end
end Q42

namespace Q42
open PySem PySem.Spec L2 PL
section
variable {P : Program} {w : World} {K : PySem.W.Frag} {mg : Str → Option Value} {base : Heap} (T : Facts K mg)
include T
set_option maxHeartbeats 0 in
theorem ok_is_word : FnG P w K mg base 1 T.f_is_word T.d_is_word ["value"] (spM ((deckG.wt T.tb mg).wc true) K mg 1 m_is_word) := by
  have nd := sc_is_word.nd
  refine fn_okG (m := m_is_word) (Sh := fun args => ∃ value : D, args = [.d value]) T.F_is_word sc_is_word (by decide) (fun args n P PX h => ?_) ?_
  · unfold m_is_word at h; split at h
    all_goals first | exact ⟨_, rfl⟩ | exact False.elim h
  · rintro args ⟨value, rfl⟩ cdv A outer s H E Wx hg hr tk po
    show SG _ _ _ _ _ EnT (d_is_word value)
    unfold d_is_word
    exact (sg_if ((tw_or (t_not (t_truth (e_isi .str (T.z_isinstance) (T.z_str) (by decide +kernel) (e_nm 0)))) (tw_or1 (t_not (t_chain (cm_le) (cm_le) (e_int) (e_lenI (T.z_len) (e_nm 0)) (e_gi T.c_LONGEST_WORD.choose_spec))))).t) rfl
    (sg_retP (d := (.bl false)) (e_bl) rfl rfl)
    (sg_push (sg_retT (e_all rfl (T.z_all) ((o_lcQ (own := [("sign", 1)]) (t := (.nm 1)) (f := chD) (mu := ret) (ee := (fun a ρ => ρ.set 1 (.d (chD a)))) (fun _ => rfl) (fun x ρ => setT_1 1 chD x ρ) rfl nd (w_strZ (e_nm 0)) (blkOk_by (own := [("sign", 1)]) (N := sc_is_word_N) (sc := defScope s_is_word) (by decide +kernel)) (fun _ _ _ _ _ => g_nm 1 nd) (fun _ _ _ _ _ => ts_nil) (fun _ _ _ _ _ => e_cmp (cm_inS) (e_nm 1) (e_gs T.c_LETTERS.choose_spec))).e)) rfl (fun _ => rfl))))
end
end Q42

namespace Q42
open PySem PySem.Spec L2 PL
section
variable {P : Program} {w : World} {K : PySem.W.Frag} {mg : Str → Option Value} {base : Heap} (T : Facts K mg)
include T
set_option maxHeartbeats 0 in
theorem ok_is_value : FnG P w K mg base 3 T.f_is_value T.d_is_value ["value"] (spM ((deckG.wt T.tb mg).wc true) K mg 1 m_is_value) := by
  have nd := sc_is_value.nd
  refine fn_okG (m := m_is_value) (Sh := fun args => ∃ value : D, args = [.d value]) T.F_is_value sc_is_value (by decide) (fun args n P PX h => ?_) ?_
  · unfold m_is_value at h; split at h
    all_goals first | exact ⟨_, rfl⟩ | exact False.elim h
  · rintro args ⟨value, rfl⟩ cdv A outer s H E Wx hg hr tk po
    show SG _ _ _ _ _ EnT (d_is_value value)
    unfold d_is_value
    exact (sg_retT (e_call (ps := ["value", "least", "most"]) ⟨ok_is_between T, T.g_is_between, T.F_is_between.kp⟩ hg (hr.mono (by decide)) tk T.B_is_between (v_cons (e_nm 0) (v_cons (e_neg (e_gi T.c_GREATEST_VALUE.choose_spec)) (v_cons (e_gi T.c_GREATEST_VALUE.choose_spec) (v_nil))))) rfl (fun _ => rfl))
end
end Q42

namespace Q42
open PySem PySem.Spec L2 PL
section
variable {P : Program} {w : World} {K : PySem.W.Frag} {mg : Str → Option Value} {base : Heap} (T : Facts K mg)
include T
set_option maxHeartbeats 0 in
theorem ok_is_command : FnG P w K mg base 4 T.f_is_command T.d_is_command ["value"] (spM ((deckG.wt T.tb mg).wc true) K mg 1 m_is_command) := by
  have nd := sc_is_command.nd
  refine fn_okG (m := m_is_command) (Sh := fun args => ∃ value : D, args = [.d value]) T.F_is_command sc_is_command (by decide) (fun args n P PX h => ?_) ?_
  · unfold m_is_command at h; split at h
    all_goals first | exact ⟨_, rfl⟩ | exact False.elim h
  · rintro args ⟨value, rfl⟩ cdv A outer s H E Wx hg hr tk po
    show SG _ _ _ _ _ EnT (d_is_command value)
    unfold d_is_command
    exact (sg_if ((tw_or (t_not (t_truth (e_isi .tup (T.z_isinstance) (T.z_tuple) (by decide +kernel) (e_nm 0)))) (tw_or (t_cmp (cm_lt) (e_lenI (T.z_len) (e_nm 0)) (e_int)) (tw_or (t_not (t_truth (e_isi .str (T.z_isinstance) (T.z_str) (by decide +kernel) (e_ix (e_nm 0) (e_int))))) (tw_or1 (t_not (t_truth (e_call (ps := ["value"]) ⟨ok_is_word T, T.g_is_word, T.F_is_word.kp⟩ hg (hr.mono (by decide)) tk T.B_is_word (v_cons (e_ix (e_nm 0) (e_int)) (v_nil))))))))).t) rfl
    (sg_retP (d := (.bl false)) (e_bl) rfl rfl)
    (sg_push (sg_if (t_cmp (cm_eq (u64 hr)) (e_ix (e_nm 0) (e_int)) (e_gs T.c_SET.choose_spec)) rfl
    (sg_retT (e_and (e_cmp (cm_eqI (u64 hr)) (e_lenI (T.z_len) (e_nm 0)) (e_int)) (e_one (e_call (ps := ["value"]) ⟨ok_is_value T, T.g_is_value, T.F_is_value.kp⟩ hg (hr.mono (by decide)) tk T.B_is_value (v_cons (e_ix (e_nm 0) (e_int)) (v_nil))))) rfl (fun _ => rfl))
    (sg_push (sg_retT (e_and (e_cmp (cm_eqI (u64 hr)) (e_lenI (T.z_len) (e_nm 0)) (e_int)) (e_one (e_cmp (cm_in) (e_ix (e_nm 0) (e_int)) (e_tupL (al_cons (e_gs T.c_DEL.choose_spec) (al_cons (e_gs T.c_MARK.choose_spec) (al_cons (e_gs T.c_BACK.choose_spec) (al_cons (e_gs T.c_KEEP.choose_spec) (al_nil))))))))) rfl (fun _ => rfl))))))
end
end Q42

namespace Q42
open PySem PySem.Spec L2 PL
section
variable {P : Program} {w : World} {K : PySem.W.Frag} {mg : Str → Option Value} {base : Heap} (T : Facts K mg)
include T
set_option maxHeartbeats 0 in
theorem ok_is_try : FnG P w K mg base 1 T.f_is_try T.d_is_try ["value"] (spM ((deckG.wt T.tb mg).wc true) K mg 1 m_is_try) := by
  have nd := sc_is_try.nd
  refine fn_okG (m := m_is_try) (Sh := fun args => ∃ value : D, args = [.d value]) T.F_is_try sc_is_try (by decide) (fun args n P PX h => ?_) ?_
  · unfold m_is_try at h; split at h
    all_goals first | exact ⟨_, rfl⟩ | exact False.elim h
  · rintro args ⟨value, rfl⟩ cdv A outer s H E Wx hg hr tk po
    show SG _ _ _ _ _ EnT (d_is_try value)
    unfold d_is_try
    exact (sg_retT (e_and (e_isi .tup (T.z_isinstance) (T.z_tuple) (by decide +kernel) (e_nm 0)) (e_and (e_cmp (cm_eqI (u64 hr)) (e_lenI (T.z_len) (e_nm 0)) (e_int)) (e_and (e_isi .str (T.z_isinstance) (T.z_str) (by decide +kernel) (e_ix (e_nm 0) (e_int))) (e_one (e_cmp (cm_eq (u64 hr)) (e_ix (e_nm 0) (e_int)) (e_gs T.c_TRY.choose_spec)))))) rfl (fun _ => rfl))
end
end Q42

namespace Q42
open PySem PySem.Spec L2 PL
section
variable {P : Program} {w : World} {K : PySem.W.Frag} {mg : Str → Option Value} {base : Heap} (T : Facts K mg)
include T
set_option maxHeartbeats 0 in
theorem ok_parts_of : ∀ n : Nat, FnG P w K mg base (5 + n) T.f_parts_of T.d_parts_of ["value", "depth"] (spM ((deckG.wt T.tb mg).wc true) K mg 2 (m_parts_of n))
  | 0 => ⟨fun vs H Q E ⟨S, pen, args, n, P, PX, hl, _, _, _, _, r, _⟩ => r.len.trans hl, fun A outer s H args us vs Q E hg hr he hb r ⟨S, pen, args, n, P, PX, hl, _, _, _, _, _, q, _⟩ => False.elim q⟩
  | n + 1 => by
    have IH := ok_parts_of n
    have nd := sc_parts_of.nd
    refine fn_okG (m := m_parts_of (n + 1)) (Sh := fun args => ∃ value : D, ∃ depth : Int, args = [.d value, .d (.int depth)]) T.F_parts_of sc_parts_of (by decide) (fun args n0 P PX h => ?_) ?_
    · replace h : mm_parts_of (m_parts_of n) args n0 P PX := h
      unfold mm_parts_of at h; split at h
      all_goals first | exact ⟨_, _, rfl⟩ | exact False.elim h
    · rintro args ⟨value, depth, rfl⟩ cdv A outer s H E Wx hg hr tk po
      show SG _ _ _ _ _ EnT (d_parts_of (m_parts_of n) value depth)
      unfold d_parts_of
      exact (sg_ifP (t_not (t_truth (e_isis (ts := [.tup, .lst]) (T.z_isinstance) (cl_cons .tup (T.z_tuple) (by decide +kernel) (cl_cons .lst (T.z_list) (by decide +kernel) (cl_nil))) (e_nm 0)))) rfl
    (sg_retP (d := .non) (e_non) rfl rfl)
    (sg_push (sg_asg2P (z1 := (.int 0)) (z2 := (.int 0)) (ρ' := [.d value, .d (.int depth), .d (.int 0), .d (.int 0), .un, .un, .un, .un]) 2 3 8 (e_tupL (hz := Nat.le_of_ble_eq_true rfl) (al_cons (e_int) (al_cons (e_int) (al_nil)))) (g_tp rfl (gs_cons (g_nm 2 nd) (gs_cons (g_nm 3 nd) (gs_nil)))) rfl rfl (by decide) (by decide) (by decide) rfl (sg_forI (t := (.nm 4)) (f := (fun y : D => y)) (emb := (fun j : Int × Int => [.d value, .d (.int depth), .d (.int j.1), .d (.int j.2), .un, .un, .un, .un])) (e := (fun a j => [.d value, .d (.int depth), .d (.int j.1), .d (.int j.2), .d a, .un, .un, .un])) po rfl (w_seqZ (e_nm 0)) (g_nm 4 nd) rfl seqT_map id_inj (Le.same (Le.same (Le.same (Le.same (Le.same (Le.same (Le.same (Le.same (Le.nil))))))))) (fun x j => rfl) (fun j a b h => id_inj _ _ (by have q := congrArg (·[4]?) h; exact SV.d.inj (Option.some.inj q)))
    (fun item j => sg_if (t_truth (e_call (ps := ["value"]) ⟨ok_is_command T, T.g_is_command, T.F_is_command.kp⟩ hg (hr.mono (Nat.le_trans (show _ ≤ 5 by decide) (Nat.le_add_right 5 _))) tk T.B_is_command (v_cons (e_nm 4) (v_nil)))) rfl
    (sg_augIP (z := (j.1 + 1)) (ρ' := [.d value, .d (.int depth), .d (.int (j.1 + 1)), .d (.int j.2), .d item, .un, .un, .un]) 2 (e_int) nd rfl rfl (sg_push (sg_nil ⟨((j.1 + 1), j.2), rfl, (Le.same (Le.same (Le.same (Le.same (Le.un (Le.same (Le.same (Le.same (Le.nil)))))))))⟩)))
    (sg_if ((tw_and (t_truth (e_call (ps := ["value"]) ⟨ok_is_try T, T.g_is_try, T.F_is_try.kp⟩ hg (hr.mono (Nat.le_trans (show _ ≤ 5 by decide) (Nat.le_add_right 5 _))) tk T.B_is_try (v_cons (e_nm 4) (v_nil)))) (tw_and1 (t_cmp (cm_lt) (e_nm 1) (e_gi T.c_DEEPEST_TRY.choose_spec)))).t) rfl
    (sg_asgLc (ρ' := fun inner => [.d value, .d (.int depth), .d (.int j.1), .d (.int j.2), .d item, .d (.lst inner), .un, .un]) (own := [("block", 6)]) (t := (.nm 6)) (f := (fun y : D => y)) (mu := ret) (ee := (fun a ρ => ρ.set 6 (.d a))) 5 8 seqT_map (fun x ρ => setT_1 6 (fun y : D => y) x ρ) rfl nd (w_seqZ (e_sl (e_nm 4) (p_some (e_int)) (p_none))) (blkOk_by (own := [("block", 6)]) (N := sc_parts_of_N) (sc := defScope s_parts_of) (by decide +kernel)) (fun _ _ _ _ _ => g_nm 6 nd) (fun _ _ _ _ _ => ts_nil) (fun _ _ _ _ _ => e_call (ps := ["value", "depth"]) ⟨IH, T.g_parts_of, T.F_parts_of.kp⟩ hg hr L2.takes0 T.B_parts_of (v_cons (e_nm 6) (v_cons (e_add (e_nm 1) (e_int)) (v_nil)))) rfl rfl (by decide) (fun _ => rfl) (fun inner => sg_if (t_cmp (cm_inDp (u65 hr)) (e_non) (e_nm 5)) rfl
    (sg_retP (d := .non) (e_non) rfl ⟨ret .non, rfl, rfl⟩)
    (sg_push (sg_augI (ρ' := fun commands => [.d value, .d (.int depth), .d (.int commands), .d (.int j.2), .d item, .d (.lst inner), .un, .un]) 2 8 (e_sum rfl (T.z_sum) ((o_lcQ (own := [("part", 7)]) (t := (.nm 7)) (f := (fun y : D => y)) (mu := ret) (ee := (fun a ρ => ρ.set 7 (.d a))) seqT_map (fun x ρ => setT_1 7 (fun y : D => y) x ρ) rfl nd (w_seqZ (e_nm 5)) (blkOk_by (own := [("part", 7)]) (N := sc_parts_of_N) (sc := defScope s_parts_of) (by decide +kernel)) (fun _ _ _ _ _ => g_nm 7 nd) (fun _ _ _ _ _ => ts_nil) (fun _ _ _ _ _ => e_ix (e_nm 7) (e_int))).e)) nd rfl rfl (by decide) (fun _ => rfl) (fun commands => sg_augI (ρ' := fun tries => [.d value, .d (.int depth), .d (.int commands), .d (.int tries), .d item, .d (.lst inner), .un, .un]) 3 8 (e_add (e_int) (e_sum rfl (T.z_sum) ((o_lcQ (own := [("part", 7)]) (t := (.nm 7)) (f := (fun y : D => y)) (mu := ret) (ee := (fun a ρ => ρ.set 7 (.d a))) seqT_map (fun x ρ => setT_1 7 (fun y : D => y) x ρ) rfl nd (w_seqZ (e_nm 5)) (blkOk_by (own := [("part", 7)]) (N := sc_parts_of_N) (sc := defScope s_parts_of) (by decide +kernel)) (fun _ _ _ _ _ => g_nm 7 nd) (fun _ _ _ _ _ => ts_nil) (fun _ _ _ _ _ => e_ix (e_nm 7) (e_int))).e))) nd rfl rfl (by decide) (fun _ => rfl) (fun tries => sg_push (sg_push (sg_nil ⟨(commands, tries), rfl, (Le.same (Le.same (Le.same (Le.same (Le.un (Le.un (Le.same (Le.same (Le.nil)))))))))⟩))))))))
    (sg_retP (d := .non) (e_non) rfl ⟨ret .non, rfl, rfl⟩)))
    (fun j1 => sg_retP (d := (.tup [(.int j1.1), (.int j1.2)])) (e_tupL (hz := Nat.le_of_ble_eq_true rfl) (al_cons (e_nm 2) (al_cons (e_nm 3) (al_nil)))) rfl rfl)))))
theorem okk_parts_of : FnG P w K mg base 11 T.f_parts_of T.d_parts_of ["value", "depth"] (spM ((deckG.wt T.tb mg).wc true) K mg 2 k_parts_of) := by
  rw [k_parts_of_eq]
  exact ok_parts_of T 6
end
end Q42

namespace Q42
open PySem PySem.Spec L2 PL
section
variable {P : Program} {w : World} {K : PySem.W.Frag} {mg : Str → Option Value} {base : Heap} (T : Facts K mg)
include T
set_option maxHeartbeats 0 in
theorem ok_is_program : FnG P w K mg base 12 T.f_is_program T.d_is_program ["value"] (spM ((deckG.wt T.tb mg).wc true) K mg 1 m_is_program) := by
  have nd := sc_is_program.nd
  refine fn_okG (m := m_is_program) (Sh := fun args => ∃ value : D, args = [.d value]) T.F_is_program sc_is_program (by decide) (fun args n P PX h => ?_) ?_
  · unfold m_is_program at h; split at h
    all_goals first | exact ⟨_, rfl⟩ | exact False.elim h
  · rintro args ⟨value, rfl⟩ cdv A outer s H E Wx hg hr tk po
    show SG _ _ _ _ _ EnT (d_is_program value)
    unfold d_is_program
    exact (sg_asg (f := (fun x => x)) (ρ' := fun parts => [.d value, .d parts]) 1 2 (e_call (ps := ["value", "depth"]) ⟨okk_parts_of T, T.g_parts_of, T.F_parts_of.kp⟩ hg (hr.mono (by decide)) tk T.B_parts_of (v_cons (e_nm 0) (v_cons (e_int) (v_nil)))) (g_nm 1 nd) rfl id_inj rfl (by decide) (fun _ => rfl) (fun parts => sg_retT (e_and (e_cmp (cm_isnot) (e_nm 1) (e_non)) (e_and (e_cmp (cm_le) (e_asI (e_ix (e_nm 1) (e_int))) (e_gi T.c_MOST_TRIED_COMMANDS.choose_spec)) (e_one (e_cmp (cm_le) (e_asI (e_ix (e_nm 1) (e_int))) (e_gi T.c_MOST_TRIES.choose_spec))))) rfl (fun _ => rfl)))
end
end Q42

namespace Q42
open PySem PySem.Spec L2 PL
section
variable {P : Program} {w : World} {K : PySem.W.Frag} {mg : Str → Option Value} {base : Heap} (T : Facts K mg)
include T
set_option maxHeartbeats 0 in
theorem ok_l_pick : FnG P w K mg base 2 T.f_l_pick T.d_l_pick ["_law_deck_here", "_law_some"] (spM ((deckG.wt T.tb mg).wc true) K mg 2 m_l_pick) := by
  have nd := sc_l_pick.nd
  refine fn_okG (m := m_l_pick) (Sh := fun args => ∃ someV : D, args = [.pen, .d someV]) T.F_l_pick sc_l_pick (by decide) (fun args n P PX h => ?_) ?_
  · unfold m_l_pick at h; split at h
    all_goals first | exact ⟨_, rfl⟩ | exact False.elim h
  · rintro args ⟨someV, rfl⟩ cdv A outer s H E Wx hg hr tk po
    show SG _ _ _ _ _ EnT (d_l_pick someV)
    unfold d_l_pick
    exact (sg_retT (e_ix (e_nm 1) (e_call (ps := ["_law_deck_here", "_law_many"]) ⟨ok_l_draw T, T.g_l_draw, T.F_l_draw.kp⟩ hg (hr.mono (by decide)) tk T.B_l_draw (v_pen 0 (v_cons (e_lenI (T.z_len) (e_nm 1)) (v_nil))))) rfl (fun _ => rfl))
end
end Q42

namespace Q42
open PySem PySem.Spec L2 PL
section
variable {P : Program} {w : World} {K : PySem.W.Frag} {mg : Str → Option Value} {base : Heap} (T : Facts K mg)
include T
set_option maxHeartbeats 0 in
theorem ok_l_labels : FnG P w K mg base 3 T.f_l_labels T.d_l_labels ["_law_deck_here", "_law_many"] (spM ((deckG.wt T.tb mg).wc true) K mg 2 m_l_labels) := by
  have nd := sc_l_labels.nd
  refine fn_okG (m := m_l_labels) (Sh := fun args => ∃ many : Int, args = [.pen, .d (.int many)]) T.F_l_labels sc_l_labels (by decide) (fun args n P PX h => ?_) ?_
  · unfold m_l_labels at h; split at h
    all_goals first | exact ⟨_, rfl⟩ | exact False.elim h
  · rintro args ⟨many, rfl⟩ cdv A outer s H E Wx hg hr tk po
    show SG _ _ _ _ _ EnT (d_l_labels many)
    unfold d_l_labels
    exact (sg_asgP (d := (.str (Str.ofString "abcdefghijklmnopqrstuvwxyz"))) (ρ' := [.pen, .d (.int many), .d (.str (Str.ofString "abcdefghijklmnopqrstuvwxyz")), .un, .un, .un, .un, .un, .un]) 2 (e_str (x := Str.ofString "abcdefghijklmnopqrstuvwxyz")) (g_nm 2 nd) rfl rfl (sg_par2 (f1 := fun a : Int × Int => (.int a.1)) (f2 := fun a : Int × Int => (.int a.2)) (ρ' := fun p => [.pen, .d (.int many), .d (.str (Str.ofString "abcdefghijklmnopqrstuvwxyz")), .d (.int p.1), .d (.int p.2), .un, .un, .un, .un]) 3 4 9 (al_cons (e_call (ps := ["_law_deck_here", "_law_many"]) ⟨ok_l_draw T, T.g_l_draw, T.F_l_draw.kp⟩ hg (hr.mono (by decide)) tk T.B_l_draw (v_pen 0 (v_cons (e_int) (v_nil)))) (al_cons (e_call (ps := ["_law_deck_here", "_law_many"]) ⟨ok_l_draw T, T.g_l_draw, T.F_l_draw.kp⟩ hg (hr.mono (by decide)) tk T.B_l_draw (v_pen 0 (v_cons (e_int) (v_nil)))) (al_nil))) rfl nd rfl (fun a b h1 h2 => Prod.ext (int_inj _ _ h1) (int_inj _ _ h2)) rfl (by decide) (by decide) (by decide) (fun _ => rfl) (fun p => sg_asg (f := (fun x => x)) (ρ' := fun stem => [.pen, .d (.int many), .d (.str (Str.ofString "abcdefghijklmnopqrstuvwxyz")), .d (.int p.1), .d (.int p.2), .un, .d stem, .un, .un]) 6 9 (e_join (e_str (x := Str.ofString "")) ((o_lcQ (own := [("_law_k", 5)]) (t := (.nm 5)) (f := D.int) (mu := ret) (ee := (fun a ρ => ρ.set 5 (.d (.int a)))) (fun _ => rfl) (fun x ρ => setT_1 5 D.int x ρ) rfl nd (w_rngK (w_rng1Z (T.z_range) (e_int))) (blkOk_by (own := [("_law_k", 5)]) (N := sc_l_labels_N) (sc := defScope s_l_labels) (by decide +kernel)) (fun _ _ _ _ _ => g_nm 5 nd) (fun _ _ _ _ _ => ts_nil) (fun _ _ _ _ _ => e_call (ps := ["_law_deck_here", "_law_some"]) ⟨ok_l_pick T, T.g_l_pick, T.F_l_pick.kp⟩ hg (hr.mono (by decide)) L2.takes0 T.B_l_pick (v_pen 0 (v_cons (e_nm 2) (v_nil))))).e)) (g_nm 6 nd) rfl id_inj rfl (by decide) (fun _ => rfl) (fun stem => sg_ownP (d := []) (ρ' := [.pen, .d (.int many), .d (.str (Str.ofString "abcdefghijklmnopqrstuvwxyz")), .d (.int p.1), .d (.int p.2), .un, .d stem, .own [], .un]) 7 (o_lstL (al_nil)) nd rfl rfl (sg_forI (t := (.nm 5)) (f := D.int) (emb := (fun j1 : List D => [.pen, .d (.int many), .d (.str (Str.ofString "abcdefghijklmnopqrstuvwxyz")), .d (.int p.1), .d (.int p.2), .un, .d stem, .own j1, .un])) (e := (fun a j1 => [.pen, .d (.int many), .d (.str (Str.ofString "abcdefghijklmnopqrstuvwxyz")), .d (.int p.1), .d (.int p.2), .d (.int a), .d stem, .own j1, .un])) po rfl (w_rng1Z (T.z_range) (e_nm 1)) (g_nm 5 nd) rfl (fun _ => rfl) int_inj (Le.same (Le.same (Le.same (Le.same (Le.same (Le.same (Le.same (Le.same (Le.same (Le.nil)))))))))) (fun x j => rfl) (fun j a b h => int_inj _ _ (by have q := congrArg (·[5]?) h; exact SV.d.inj (Option.some.inj q)))
    (fun k1 j1 => sg_asg (f := (fun x => x)) (ρ' := fun sign => [.pen, .d (.int many), .d (.str (Str.ofString "abcdefghijklmnopqrstuvwxyz")), .d (.int p.1), .d (.int p.2), .d (.int k1), .d stem, .own j1, .d sign]) 8 9 (e_ix (e_nm 2) (e_mod (e_add (e_nm 4) (e_mul (e_int) (e_nm 5))) (e_int))) (g_nm 8 nd) rfl id_inj rfl (by decide) (fun _ => rfl) (fun sign => sg_app (f := (fun x => x)) (ρ' := fun app => [.pen, .d (.int many), .d (.str (Str.ofString "abcdefghijklmnopqrstuvwxyz")), .d (.int p.1), .d (.int p.2), .d (.int k1), .d stem, .own (j1 ++ [app]), .d sign]) (xs := j1) 7 9 (e_ix ((o_lstL (al_cons (e_nm 8) (al_cons (e_add (e_nm 6) (e_nm 8)) (al_cons (e_add (e_nm 8) (e_sl (e_nm 6) (p_none) (p_some (e_mod (e_nm 5) (e_int))))) (al_nil))))).e) (e_nm 3)) rfl rfl id_inj rfl (by decide) (fun _ => rfl) (fun app => sg_nil ⟨(j1 ++ [app]), rfl, (Le.same (Le.same (Le.same (Le.same (Le.same (Le.un (Le.same (Le.same (Le.un (Le.nil))))))))))⟩)))
    (fun j2 => sg_retP (d := (.lst j2)) (e_nm 7) rfl rfl))))))
end
end Q42

namespace Q42
open PySem PySem.Spec L2 PL
section
variable {P : Program} {w : World} {K : PySem.W.Frag} {mg : Str → Option Value} {base : Heap} (T : Facts K mg)
include T
set_option maxHeartbeats 0 in
theorem ok_l_entry : FnG P w K mg base 2 T.f_l_entry T.d_l_entry ["_law_deck_here"] (spM ((deckG.wt T.tb mg).wc true) K mg 1 m_l_entry) := by
  have nd := sc_l_entry.nd
  refine fn_okG (m := m_l_entry) (Sh := fun args => args = [.pen]) T.F_l_entry sc_l_entry (by decide) (fun args n P PX h => ?_) ?_
  · unfold m_l_entry at h; split at h
    all_goals first | exact rfl | exact False.elim h
  · rintro args rfl cdv A outer s H E Wx hg hr tk po
    show SG _ _ _ _ _ EnT (d_l_entry )
    unfold d_l_entry
    exact (sg_retT (e_ix ((o_lstL (al_cons (e_int) (al_cons (e_int) (al_cons (e_neg (e_int)) (al_cons (e_powC (v := 1000000000000000000) (e_int) (e_int)) (al_cons (e_neg (e_powC (v := 1000000000000000000) (e_int) (e_int))) (al_cons (e_call (ps := ["_law_deck_here", "_law_many"]) ⟨ok_l_draw T, T.g_l_draw, T.F_l_draw.kp⟩ hg (hr.mono (by decide)) tk T.B_l_draw (v_pen 0 (v_cons (e_int) (v_nil)))) (al_nil)))))))).e) (e_call (ps := ["_law_deck_here", "_law_many"]) ⟨ok_l_draw T, T.g_l_draw, T.F_l_draw.kp⟩ hg (hr.mono (by decide)) tk T.B_l_draw (v_pen 0 (v_cons (e_int) (v_nil))))) rfl (fun _ => rfl))
end
end Q42

namespace Q42
open PySem PySem.Spec L2 PL
section
variable {P : Program} {w : World} {K : PySem.W.Frag} {mg : Str → Option Value} {base : Heap} (T : Facts K mg)
include T
set_option maxHeartbeats 0 in
theorem ok_l_command : FnG P w K mg base 3 T.f_l_command T.d_l_command ["_law_deck_here", "_law_keys", "_law_labels_here"] (spM ((deckG.wt T.tb mg).wc true) K mg 3 m_l_command) := by
  have nd := sc_l_command.nd
  refine fn_okG (m := m_l_command) (Sh := fun args => ∃ keys : D, ∃ labels : D, args = [.pen, .d keys, .d labels]) T.F_l_command sc_l_command (by decide) (fun args n P PX h => ?_) ?_
  · unfold m_l_command at h; split at h
    all_goals first | exact ⟨_, _, rfl⟩ | exact False.elim h
  · rintro args ⟨keys, labels, rfl⟩ cdv A outer s H E Wx hg hr tk po
    show SG _ _ _ _ _ EnT (d_l_command keys labels)
    unfold d_l_command
    exact (sg_asg (f := .int) (ρ' := fun way => [.pen, .d keys, .d labels, .d (.int way)]) 3 4 (e_call (ps := ["_law_deck_here", "_law_many"]) ⟨ok_l_draw T, T.g_l_draw, T.F_l_draw.kp⟩ hg (hr.mono (by decide)) tk T.B_l_draw (v_pen 0 (v_cons (e_int) (v_nil)))) (g_nm 3 nd) rfl int_inj rfl (by decide) (fun _ => rfl) (fun way => sg_ifP (t_cmp (cm_lt) (e_nm 3) (e_int)) rfl
    (sg_retT (e_tupL (al_cons (e_str (x := Str.ofString "set")) (al_cons (e_call (ps := ["_law_deck_here", "_law_some"]) ⟨ok_l_pick T, T.g_l_pick, T.F_l_pick.kp⟩ hg (hr.mono (by decide)) tk T.B_l_pick (v_pen 0 (v_cons (e_nm 1) (v_nil)))) (al_cons (e_call (ps := ["_law_deck_here"]) ⟨ok_l_entry T, T.g_l_entry, T.F_l_entry.kp⟩ hg (hr.mono (by decide)) tk T.B_l_entry (v_pen 0 (v_nil))) (al_nil))))) rfl (fun _ => rfl))
    (sg_push (sg_ifP (t_cmp (cm_eqI (u64 hr)) (e_nm 3) (e_int)) rfl
    (sg_retT (e_tupL (al_cons (e_str (x := Str.ofString "del")) (al_cons (e_call (ps := ["_law_deck_here", "_law_some"]) ⟨ok_l_pick T, T.g_l_pick, T.F_l_pick.kp⟩ hg (hr.mono (by decide)) tk T.B_l_pick (v_pen 0 (v_cons (e_nm 1) (v_nil)))) (al_nil)))) rfl (fun _ => rfl))
    (sg_push (sg_retT (e_tupL (al_cons (e_ix ((o_lstL (al_cons (e_str (x := Str.ofString "mark")) (al_cons (e_str (x := Str.ofString "mark")) (al_cons (e_str (x := Str.ofString "back")) (al_cons (e_str (x := Str.ofString "back")) (al_cons (e_str (x := Str.ofString "keep")) (al_nil))))))).e) (e_sub (e_nm 3) (e_int))) (al_cons (e_call (ps := ["_law_deck_here", "_law_some"]) ⟨ok_l_pick T, T.g_l_pick, T.F_l_pick.kp⟩ hg (hr.mono (by decide)) tk T.B_l_pick (v_pen 0 (v_cons (e_nm 2) (v_nil)))) (al_nil)))) rfl (fun _ => rfl)))))))
end
end Q42

namespace Q42
open PySem PySem.Spec L2 PL
section
variable {P : Program} {w : World} {K : PySem.W.Frag} {mg : Str → Option Value} {base : Heap} (T : Facts K mg)
include T
set_option maxHeartbeats 0 in
theorem ok_l_block : ∀ n : Nat, FnG P w K mg base (4 + n) T.f_l_block T.d_l_block ["_law_deck_here", "_law_keys", "_law_labels_here", "_law_room", "_law_depth"] (spM ((deckG.wt T.tb mg).wc true) K mg 5 (m_l_block n))
  | 0 => ⟨fun vs H Q E ⟨S, pen, args, n, P, PX, hl, _, _, _, _, r, _⟩ => r.len.trans hl, fun A outer s H args us vs Q E hg hr he hb r ⟨S, pen, args, n, P, PX, hl, _, _, _, _, _, q, _⟩ => False.elim q⟩
  | n + 1 => by
    have IH := ok_l_block n
    have nd := sc_l_block.nd
    refine fn_okG (m := m_l_block (n + 1)) (Sh := fun args => ∃ keys : D, ∃ labels : D, ∃ room : Addr, ∃ depth : Int, args = [.pen, .d keys, .d labels, .o room, .d (.int depth)]) T.F_l_block sc_l_block (by decide) (fun args n0 P PX h => ?_) ?_
    · replace h : mm_l_block (m_l_block n) args n0 P PX := h
      unfold mm_l_block at h; split at h
      all_goals first | exact ⟨_, _, _, _, rfl⟩ | exact False.elim h
    · rintro args ⟨keys, labels, room, depth, rfl⟩ cdv A outer s H E Wx hg hr tk po
      show SG _ _ _ _ _ EnT (d_l_block (m_l_block n) keys labels room depth)
      unfold d_l_block
      exact (sg_ownP (d := []) (ρ' := [.pen, .d keys, .d labels, .o room, .d (.int depth), .own [], .un, .un]) 5 (o_lstL (al_nil)) nd rfl rfl (sg_forI (t := (.nm 6)) (f := D.int) (emb := (fun j : List D => [.pen, .d keys, .d labels, .o room, .d (.int depth), .own j, .un, .un])) (e := (fun a j => [.pen, .d keys, .d labels, .o room, .d (.int depth), .own j, .d (.int a), .un])) po rfl (w_rng1Z (T.z_range) (e_call (ps := ["_law_deck_here", "_law_many"]) ⟨ok_l_draw T, T.g_l_draw, T.F_l_draw.kp⟩ hg (hr.mono (Nat.le_trans (show _ ≤ 4 by decide) (Nat.le_add_right 4 _))) tk T.B_l_draw (v_pen 0 (v_cons (e_int) (v_nil))))) (g_nm 6 nd) rfl (fun _ => rfl) int_inj (Le.same (Le.same (Le.same (Le.same (Le.same (Le.same (Le.same (Le.same (Le.nil))))))))) (fun x j => rfl) (fun j a b h => int_inj _ _ (by have q := congrArg (·[6]?) h; exact SV.d.inj (Option.some.inj q)))
    (fun k j => sg_if ((tw_and (t_cmp (cm_lt) (e_nm 4) (e_int)) (tw_and (t_cmp (cm_gt) (e_asI (e_ixObj 3 (e_int))) (e_int)) (tw_and1 (t_cmp (cm_eqI (u64 hr)) (e_call (ps := ["_law_deck_here", "_law_many"]) ⟨ok_l_draw T, T.g_l_draw, T.F_l_draw.kp⟩ hg (hr.mono (Nat.le_trans (show _ ≤ 4 by decide) (Nat.le_add_right 4 _))) tk T.B_l_draw (v_pen 0 (v_cons (e_int) (v_nil)))) (e_int))))).t) rfl
    (sg_setObj 3 (e_int) (e_sub (e_asI (e_ixObj 3 (e_int))) (e_int)) rfl rfl (sg_asg (f := (fun x => x)) (ρ' := fun one => [.pen, .d keys, .d labels, .o room, .d (.int depth), .own j, .d (.int k), .d one]) 7 8 (e_call (ps := ["_law_deck_here", "_law_keys", "_law_labels_here", "_law_room", "_law_depth"]) ⟨IH, T.g_l_block, T.F_l_block.kp⟩ hg hr tk T.B_l_block (v_pen 0 (v_cons (e_nm 1) (v_cons (e_nm 2) (v_obj 3 (v_cons (e_add (e_nm 4) (e_int)) (v_nil))))))) (g_nm 7 nd) rfl id_inj rfl (by decide) (fun _ => rfl) (fun one => sg_app (f := .tup) (ρ' := fun app => [.pen, .d keys, .d labels, .o room, .d (.int depth), .own (j ++ [(.tup app)]), .d (.int k), .d one]) (xs := j) 5 8 (e_tupL (hz := Nat.le_of_ble_eq_true rfl) (al_cons (e_str (x := Str.ofString "try")) (al_cons (e_nm 7) (al_cons (e_call (ps := ["_law_deck_here", "_law_keys", "_law_labels_here", "_law_room", "_law_depth"]) ⟨IH, T.g_l_block, T.F_l_block.kp⟩ hg hr tk T.B_l_block (v_pen 0 (v_cons (e_nm 1) (v_cons (e_nm 2) (v_obj 3 (v_cons (e_add (e_nm 4) (e_int)) (v_nil))))))) (al_nil))))) rfl rfl tup_inj rfl (by decide) (fun _ => rfl) (fun app => sg_push (sg_nil ⟨(j ++ [(.tup app)]), rfl, (Le.same (Le.same (Le.same (Le.same (Le.same (Le.same (Le.un (Le.un (Le.nil)))))))))⟩)))))
    (sg_if (t_cmp (cm_gt) (e_asI (e_ixObj 3 (e_int))) (e_int)) rfl
    (sg_setObj 3 (e_int) (e_sub (e_asI (e_ixObj 3 (e_int))) (e_int)) rfl rfl (sg_app (f := (fun x => x)) (ρ' := fun app1 => [.pen, .d keys, .d labels, .o room, .d (.int depth), .own (j ++ [app1]), .d (.int k), .un]) (xs := j) 5 8 (e_call (ps := ["_law_deck_here", "_law_keys", "_law_labels_here"]) ⟨ok_l_command T, T.g_l_command, T.F_l_command.kp⟩ hg (hr.mono (Nat.le_trans (show _ ≤ 4 by decide) (Nat.le_add_right 4 _))) tk T.B_l_command (v_pen 0 (v_cons (e_nm 1) (v_cons (e_nm 2) (v_nil))))) rfl rfl id_inj rfl (by decide) (fun _ => rfl) (fun app1 => sg_push (sg_push (sg_nil ⟨(j ++ [app1]), rfl, (Le.same (Le.same (Le.same (Le.same (Le.same (Le.same (Le.un (Le.same (Le.nil)))))))))⟩)))))
    (sg_push (sg_push (sg_nil ⟨j, rfl, (Le.same (Le.same (Le.same (Le.same (Le.same (Le.same (Le.un (Le.same (Le.nil)))))))))⟩)))))
    (fun j1 => sg_retT (e_ix ((o_lstL (hz := Nat.le_of_ble_eq_true rfl) (al_cons (e_tuple (T.z_tuple) (e_nm 5)) (al_cons (e_nm 5) (al_nil)))).e) (e_call (ps := ["_law_deck_here", "_law_many"]) ⟨ok_l_draw T, T.g_l_draw, T.F_l_draw.kp⟩ hg (hr.mono (Nat.le_trans (show _ ≤ 4 by decide) (Nat.le_add_right 4 _))) tk T.B_l_draw (v_pen 0 (v_cons (e_int) (v_nil))))) rfl (fun _ => rfl))))
theorem okk_l_block : FnG P w K mg base 9 T.f_l_block T.d_l_block ["_law_deck_here", "_law_keys", "_law_labels_here", "_law_room", "_law_depth"] (spM ((deckG.wt T.tb mg).wc true) K mg 5 k_l_block) := by
  rw [k_l_block_eq]
  exact ok_l_block T 5
end
end Q42

namespace Q42
open PySem PySem.Spec L2 PL
section
variable {P : Program} {w : World} {K : PySem.W.Frag} {mg : Str → Option Value} {base : Heap} (T : Facts K mg)
include T
set_option maxHeartbeats 0 in
theorem ok_l_whole : FnG P w K mg base 1 T.f_l_whole T.d_l_whole ["_law_item"] (spM ((deckG.wt T.tb mg).wc true) K mg 1 m_l_whole) := by
  have nd := sc_l_whole.nd
  refine fn_okG (m := m_l_whole) (Sh := fun args => ∃ item : D, args = [.d item]) T.F_l_whole sc_l_whole (by decide) (fun args n P PX h => ?_) ?_
  · unfold m_l_whole at h; split at h
    all_goals first | exact ⟨_, rfl⟩ | exact False.elim h
  · rintro args ⟨item, rfl⟩ cdv A outer s H E Wx hg hr tk po
    show SG _ _ _ _ _ EnT (d_l_whole item)
    unfold d_l_whole
    exact (sg_retT (e_and (e_isi .int (T.z_isinstance) (T.z_int) (by decide +kernel) (e_nm 0)) (e_one (e_not (e_isi .bool (T.z_isinstance) (T.z_bool) (by decide +kernel) (e_nm 0))))) rfl (fun _ => rfl))
end
end Q42

namespace Q42
open PySem PySem.Spec L2 PL
section
variable {P : Program} {w : World} {K : PySem.W.Frag} {mg : Str → Option Value} {base : Heap} (T : Facts K mg)
include T
set_option maxHeartbeats 0 in
theorem ok_l_label : FnG P w K mg base 1 T.f_l_label T.d_l_label ["_law_item"] (spM ((deckG.wt T.tb mg).wc true) K mg 1 m_l_label) := by
  have nd := sc_l_label.nd
  refine fn_okG (m := m_l_label) (Sh := fun args => ∃ item : D, args = [.d item]) T.F_l_label sc_l_label (by decide) (fun args n P PX h => ?_) ?_
  · unfold m_l_label at h; split at h
    all_goals first | exact ⟨_, rfl⟩ | exact False.elim h
  · rintro args ⟨item, rfl⟩ cdv A outer s H E Wx hg hr tk po
    show SG _ _ _ _ _ EnT (d_l_label item)
    unfold d_l_label
    exact (sg_if ((tw_or (t_not (t_truth (e_isi .str (T.z_isinstance) (T.z_str) (by decide +kernel) (e_nm 0)))) (tw_or1 (t_not (t_chain (cm_le) (cm_le) (e_int) (e_lenI (T.z_len) (e_nm 0)) (e_int))))).t) rfl
    (sg_retP (d := (.bl false)) (e_bl) rfl rfl)
    (sg_push (sg_retT (e_cmp (cm_eq (u64 hr)) ((o_lcQ (own := [("_law_sign", 1)]) (t := (.nm 1)) (f := chD) (mu := ret) (ee := (fun a ρ => ρ.set 1 (.d (chD a)))) (fun _ => rfl) (fun x ρ => setT_1 1 chD x ρ) rfl nd (w_strZ (e_nm 0)) (blkOk_by (own := [("_law_sign", 1)]) (N := sc_l_label_N) (sc := defScope s_l_label) (by decide +kernel)) (fun _ _ _ _ _ => g_nm 1 nd) (fun _ _ _ _ _ => ts_one (t_cmp (cm_notinS) (e_nm 1) (e_str (x := Str.ofString "abcdefghijklmnopqrstuvwxyz")))) (fun _ _ _ _ _ => e_nm 1)).e) ((o_lstL (al_nil)).e)) rfl (fun _ => rfl))))
end
end Q42

namespace Q42
open PySem PySem.Spec L2 PL
section
variable {P : Program} {w : World} {K : PySem.W.Frag} {mg : Str → Option Value} {base : Heap} (T : Facts K mg)
include T
set_option maxHeartbeats 0 in
theorem ok_l_is_command : FnG P w K mg base 2 T.f_l_is_command T.d_l_is_command ["_law_item"] (spM ((deckG.wt T.tb mg).wc true) K mg 1 m_l_is_command) := by
  have nd := sc_l_is_command.nd
  refine fn_okG (m := m_l_is_command) (Sh := fun args => ∃ item : D, args = [.d item]) T.F_l_is_command sc_l_is_command (by decide) (fun args n P PX h => ?_) ?_
  · unfold m_l_is_command at h; split at h
    all_goals first | exact ⟨_, rfl⟩ | exact False.elim h
  · rintro args ⟨item, rfl⟩ cdv A outer s H E Wx hg hr tk po
    show SG _ _ _ _ _ EnT (d_l_is_command item)
    unfold d_l_is_command
    exact (sg_if ((tw_or (t_not (t_truth (e_isi .tup (T.z_isinstance) (T.z_tuple) (by decide +kernel) (e_nm 0)))) (tw_or (t_cmp (cm_notin) (e_lenI (T.z_len) (e_nm 0)) (e_tupL (al_cons (e_int) (al_cons (e_int) (al_nil))))) (tw_or1 (t_not (t_truth (e_isi .str (T.z_isinstance) (T.z_str) (by decide +kernel) (e_ix (e_nm 0) (e_int)))))))).t) rfl
    (sg_retP (d := (.bl false)) (e_bl) rfl rfl)
    (sg_push (sg_if (t_not (t_truth (e_call (ps := ["_law_item"]) ⟨ok_l_label T, T.g_l_label, T.F_l_label.kp⟩ hg (hr.mono (by decide)) tk T.B_l_label (v_cons (e_ix (e_nm 0) (e_int)) (v_nil))))) rfl
    (sg_retP (d := (.bl false)) (e_bl) rfl rfl)
    (sg_push (sg_if (t_cmp (cm_eq (u64 hr)) (e_ix (e_nm 0) (e_int)) (e_str (x := Str.ofString "set"))) rfl
    (sg_retT (e_and (e_cmp (cm_eqI (u64 hr)) (e_lenI (T.z_len) (e_nm 0)) (e_int)) (e_and (e_call (ps := ["_law_item"]) ⟨ok_l_whole T, T.g_l_whole, T.F_l_whole.kp⟩ hg (hr.mono (by decide)) tk T.B_l_whole (v_cons (e_ix (e_nm 0) (e_int)) (v_nil))) (e_one (e_chain (cm_le) (cm_le) (e_neg (e_powC (v := 1000000000000000000) (e_int) (e_int))) (e_asI (e_ix (e_nm 0) (e_int))) (e_powC (v := 1000000000000000000) (e_int) (e_int)))))) rfl (fun _ => rfl))
    (sg_push (sg_retT (e_and (e_cmp (cm_eqI (u64 hr)) (e_lenI (T.z_len) (e_nm 0)) (e_int)) (e_one (e_cmp (cm_in) (e_ix (e_nm 0) (e_int)) (e_tupL (al_cons (e_str (x := Str.ofString "del")) (al_cons (e_str (x := Str.ofString "mark")) (al_cons (e_str (x := Str.ofString "back")) (al_cons (e_str (x := Str.ofString "keep")) (al_nil))))))))) rfl (fun _ => rfl))))))))
end
end Q42

namespace Q42
open PySem PySem.Spec L2 PL
section
variable {P : Program} {w : World} {K : PySem.W.Frag} {mg : Str → Option Value} {base : Heap} (T : Facts K mg)
include T
set_option maxHeartbeats 0 in
theorem ok_l_counted : ∀ n : Nat, FnG P w K mg base (3 + n) T.f_l_counted T.d_l_counted ["_law_thing", "_law_depth"] (spM ((deckG.wt T.tb mg).wc true) K mg 2 (m_l_counted n))
  | 0 => ⟨fun vs H Q E ⟨S, pen, args, n, P, PX, hl, _, _, _, _, r, _⟩ => r.len.trans hl, fun A outer s H args us vs Q E hg hr he hb r ⟨S, pen, args, n, P, PX, hl, _, _, _, _, _, q, _⟩ => False.elim q⟩
  | n + 1 => by
    have IH := ok_l_counted n
    have nd := sc_l_counted.nd
    refine fn_okG (m := m_l_counted (n + 1)) (Sh := fun args => ∃ thing : D, ∃ depth : Int, args = [.d thing, .d (.int depth)]) T.F_l_counted sc_l_counted (by decide) (fun args n0 P PX h => ?_) ?_
    · replace h : mm_l_counted (m_l_counted n) args n0 P PX := h
      unfold mm_l_counted at h; split at h
      all_goals first | exact ⟨_, _, rfl⟩ | exact False.elim h
    · rintro args ⟨thing, depth, rfl⟩ cdv A outer s H E Wx hg hr tk po
      show SG _ _ _ _ _ EnT (d_l_counted (m_l_counted n) thing depth)
      unfold d_l_counted
      exact (sg_ifP (t_not (t_truth (e_isis (ts := [.lst, .tup]) (T.z_isinstance) (cl_cons .lst (T.z_list) (by decide +kernel) (cl_cons .tup (T.z_tuple) (by decide +kernel) (cl_nil))) (e_nm 0)))) rfl
    (sg_retP (d := .non) (e_non) rfl rfl)
    (sg_push (sg_asgP (d := (.lst [(.int 0), (.int 0)])) (ρ' := [.d thing, .d (.int depth), .d (.lst [(.int 0), (.int 0)]), .un, .un, .un]) 2 ((o_lstL (hz := Nat.le_of_ble_eq_true rfl) (al_cons (e_int) (al_cons (e_int) (al_nil)))).e) (g_nm 2 nd) rfl rfl (sg_forI (t := (.nm 3)) (f := (fun y : D => y)) (emb := (fun j : List D => [.d thing, .d (.int depth), .d (.lst j), .un, .un, .un])) (e := (fun a j => [.d thing, .d (.int depth), .d (.lst j), .d a, .un, .un])) po rfl (w_seqZ (e_nm 0)) (g_nm 3 nd) rfl seqT_map id_inj (Le.same (Le.same (Le.same (Le.same (Le.same (Le.same (Le.nil))))))) (fun x j => rfl) (fun j a b h => id_inj _ _ (by have q := congrArg (·[3]?) h; exact SV.d.inj (Option.some.inj q)))
    (fun item j => sg_if (t_truth (e_call (ps := ["_law_item"]) ⟨ok_l_is_command T, T.g_l_is_command, T.F_l_is_command.kp⟩ hg (hr.mono (Nat.le_trans (show _ ≤ 3 by decide) (Nat.le_add_right 3 _))) tk T.B_l_is_command (v_cons (e_nm 3) (v_nil)))) rfl
    (sg_asg (f := .lst) (ρ' := fun total => [.d thing, .d (.int depth), .d (.lst total), .d item, .un, .un]) 2 6 ((o_lstL (hz := Nat.le_of_ble_eq_true rfl) (al_cons (e_add (e_asI (e_ix (e_nm 2) (e_int))) (e_int)) (al_cons (e_ix (e_nm 2) (e_int)) (al_nil)))).e) (g_nm 2 nd) rfl lst_inj rfl (by decide) (fun _ => rfl) (fun total => sg_push (sg_nil ⟨total, rfl, (Le.same (Le.same (Le.same (Le.un (Le.same (Le.same (Le.nil)))))))⟩)))
    (sg_if ((tw_or (t_not (t_truth (e_isi .tup (T.z_isinstance) (T.z_tuple) (by decide +kernel) (e_nm 3)))) (tw_or (t_cmp (cm_neI (u64 hr)) (e_lenI (T.z_len) (e_nm 3)) (e_int)) (tw_or1 (t_not (t_truth (e_isi .str (T.z_isinstance) (T.z_str) (by decide +kernel) (e_ix (e_nm 3) (e_int)))))))).t) rfl
    (sg_retP (d := .non) (e_non) rfl ⟨ret .non, rfl, rfl⟩)
    (sg_push (sg_if (t_cmp (cm_ne (u64 hr)) (e_ix (e_nm 3) (e_int)) (e_str (x := Str.ofString "try"))) rfl
    (sg_retP (d := .non) (e_non) rfl ⟨ret .non, rfl, rfl⟩)
    (sg_push (sg_par2 (f1 := fun a : D × D => a.1) (f2 := fun a : D × D => a.2) (ρ' := fun p => [.d thing, .d (.int depth), .d (.lst j), .d item, .d p.1, .d p.2]) 4 5 6 (al_cons (e_call (ps := ["_law_thing", "_law_depth"]) ⟨IH, T.g_l_counted, T.F_l_counted.kp⟩ hg hr tk T.B_l_counted (v_cons (e_ix (e_nm 3) (e_int)) (v_cons (e_add (e_nm 1) (e_int)) (v_nil)))) (al_cons (e_call (ps := ["_law_thing", "_law_depth"]) ⟨IH, T.g_l_counted, T.F_l_counted.kp⟩ hg hr tk T.B_l_counted (v_cons (e_ix (e_nm 3) (e_int)) (v_cons (e_add (e_nm 1) (e_int)) (v_nil)))) (al_nil))) rfl nd rfl (fun a b h1 h2 => Prod.ext (id_inj _ _ h1) (id_inj _ _ h2)) rfl (by decide) (by decide) (by decide) (fun _ => rfl) (fun p => sg_if ((tw_or (t_cmp (cm_is) (e_nm 4) (e_non)) (tw_or (t_cmp (cm_is) (e_nm 5) (e_non)) (tw_or1 (t_cmp (cm_gt) (e_nm 1) (e_int))))).t) rfl
    (sg_retP (d := .non) (e_non) rfl ⟨ret .non, rfl, rfl⟩)
    (sg_push (sg_asg (f := .lst) (ρ' := fun total1 => [.d thing, .d (.int depth), .d (.lst total1), .d item, .d p.1, .d p.2]) 2 6 ((o_lstL (hz := Nat.le_of_ble_eq_true rfl) (al_cons (e_add (e_add (e_ix (e_nm 2) (e_int)) (e_ix (e_nm 4) (e_int))) (e_ix (e_nm 5) (e_int))) (al_cons (e_add (e_asI (e_add (e_add (e_ix (e_nm 2) (e_int)) (e_ix (e_nm 4) (e_int))) (e_ix (e_nm 5) (e_int)))) (e_int)) (al_nil)))).e) (g_nm 2 nd) rfl lst_inj rfl (by decide) (fun _ => rfl) (fun total1 => sg_push (sg_nil ⟨total1, rfl, (Le.same (Le.same (Le.same (Le.un (Le.un (Le.un (Le.nil)))))))⟩)))))))))))
    (fun j1 => sg_retP (d := (.lst j1)) (e_nm 2) rfl rfl)))))
theorem okk_l_counted : FnG P w K mg base 12 T.f_l_counted T.d_l_counted ["_law_thing", "_law_depth"] (spM ((deckG.wt T.tb mg).wc true) K mg 2 k_l_counted) := by
  rw [k_l_counted_eq]
  exact ok_l_counted T 9
end
end Q42

namespace Q42
open PySem PySem.Spec L2 PL
section
variable {P : Program} {w : World} {K : PySem.W.Frag} {mg : Str → Option Value} {base : Heap} (T : Facts K mg)
include T
set_option maxHeartbeats 0 in
theorem ok_l_due : FnG P w K mg base 13 T.f_l_due T.d_l_due ["_law_thing"] (spM ((deckG.wt T.tb mg).wc true) K mg 1 m_l_due) := by
  have nd := sc_l_due.nd
  refine fn_okG (m := m_l_due) (Sh := fun args => ∃ thing : D, args = [.d thing]) T.F_l_due sc_l_due (by decide) (fun args n P PX h => ?_) ?_
  · unfold m_l_due at h; split at h
    all_goals first | exact ⟨_, rfl⟩ | exact False.elim h
  · rintro args ⟨thing, rfl⟩ cdv A outer s H E Wx hg hr tk po
    show SG _ _ _ _ _ EnT (d_l_due thing)
    unfold d_l_due
    exact (sg_asg (f := (fun x => x)) (ρ' := fun total => [.d thing, .d total]) 1 2 (e_call (ps := ["_law_thing", "_law_depth"]) ⟨okk_l_counted T, T.g_l_counted, T.F_l_counted.kp⟩ hg (hr.mono (by decide)) tk T.B_l_counted (v_cons (e_nm 0) (v_cons (e_int) (v_nil)))) (g_nm 1 nd) rfl id_inj rfl (by decide) (fun _ => rfl) (fun total => sg_retT (e_and (e_cmp (cm_isnot) (e_nm 1) (e_non)) (e_and (e_cmp (cm_lt) (e_asI (e_ix (e_nm 1) (e_int))) (e_int)) (e_one (e_cmp (cm_lt) (e_asI (e_ix (e_nm 1) (e_int))) (e_int))))) rfl (fun _ => rfl)))
end
end Q42

namespace Q42
open PySem PySem.Spec L2 PL
section
variable {P : Program} {w : World} {K : PySem.W.Frag} {mg : Str → Option Value} {base : Heap} (T : Facts K mg)
include T
set_option maxHeartbeats 0 in
theorem ok_l_strange : FnG P w K mg base 2 T.f_l_strange T.d_l_strange ["_law_deck_here"] (spM ((deckG.wt T.tb mg).wc true) K mg 1 m_l_strange) := by
  have nd := sc_l_strange.nd
  refine fn_okG (m := m_l_strange) (Sh := fun args => args = [.pen]) T.F_l_strange sc_l_strange (by decide) (fun args n P PX h => ?_) ?_
  · unfold m_l_strange at h; split at h
    all_goals first | exact rfl | exact False.elim h
  · rintro args rfl cdv A outer s H E Wx hg hr tk po
    show SG _ _ _ _ _ EnT (d_l_strange )
    unfold d_l_strange
    exact (sg_asgP (d := (.lst [(.tup [(.str (Str.ofString "try")), (.tup []), (.tup [])]), (.tup [(.str (Str.ofString "try")), (.lst []), (.tup [])]), (.tup [(.str (Str.ofString "try")), (.tup [])]), (.tup [(.str (Str.ofString "try")), (.tup []), (.tup []), (.tup [])]), (.tup [(.str (Str.ofString "Try")), (.tup []), (.tup [])]), (.lst [(.str (Str.ofString "try")), (.tup []), (.tup [])])])) (ρ' := [.pen, .d (.lst [(.tup [(.str (Str.ofString "try")), (.tup []), (.tup [])]), (.tup [(.str (Str.ofString "try")), (.lst []), (.tup [])]), (.tup [(.str (Str.ofString "try")), (.tup [])]), (.tup [(.str (Str.ofString "try")), (.tup []), (.tup []), (.tup [])]), (.tup [(.str (Str.ofString "Try")), (.tup []), (.tup [])]), (.lst [(.str (Str.ofString "try")), (.tup []), (.tup [])])])]) 1 ((o_lstL (al_cons (e_tupL (al_cons (e_str (x := Str.ofString "try")) (al_cons (e_tupL (al_nil)) (al_cons (e_tupL (al_nil)) (al_nil))))) (al_cons (e_tupL (al_cons (e_str (x := Str.ofString "try")) (al_cons ((o_lstL (al_nil)).e) (al_cons (e_tupL (al_nil)) (al_nil))))) (al_cons (e_tupL (al_cons (e_str (x := Str.ofString "try")) (al_cons (e_tupL (al_nil)) (al_nil)))) (al_cons (e_tupL (al_cons (e_str (x := Str.ofString "try")) (al_cons (e_tupL (al_nil)) (al_cons (e_tupL (al_nil)) (al_cons (e_tupL (al_nil)) (al_nil)))))) (al_cons (e_tupL (al_cons (e_str (x := Str.ofString "Try")) (al_cons (e_tupL (al_nil)) (al_cons (e_tupL (al_nil)) (al_nil))))) (al_cons ((o_lstL (al_cons (e_str (x := Str.ofString "try")) (al_cons (e_tupL (al_nil)) (al_cons (e_tupL (al_nil)) (al_nil))))).e) (al_nil)))))))).e) (g_nm 1 nd) rfl rfl (sg_asg (f := .lst) (ρ' := fun someV => [.pen, .d (.lst someV)]) 1 2 (e_add (e_nm 1) ((o_lstL (al_cons (e_tupL (al_cons (e_str (x := Str.ofString "set")) (al_cons (e_str (x := Str.ofString "x")) (al_nil)))) (al_cons (e_tupL (al_cons (e_str (x := Str.ofString "set")) (al_cons (e_str (x := Str.ofString "x")) (al_cons (e_bl) (al_nil))))) (al_cons (e_tupL (al_cons (e_str (x := Str.ofString "set")) (al_cons (e_str (x := Str.ofString "x")) (al_cons (e_add (e_powC (v := 1000000000000000000) (e_int) (e_int)) (e_int)) (al_nil))))) (al_cons (e_tupL (al_cons (e_str (x := Str.ofString "del")) (al_cons (e_str (x := Str.ofString "x")) (al_cons (e_int) (al_nil))))) (al_cons (e_tupL (al_cons (e_str (x := Str.ofString "mark")) (al_cons (e_str (x := Str.ofString "")) (al_nil)))) (al_nil))))))).e)) (g_nm 1 nd) rfl lst_inj rfl (by decide) (fun _ => rfl) (fun someV => sg_asg (f := .lst) (ρ' := fun someV1 => [.pen, .d (.lst someV1)]) 1 2 (e_add (e_nm 1) ((o_lstL (al_cons (e_tupL (al_cons (e_str (x := Str.ofString "keep")) (al_nil))) (al_cons ((o_lstL (al_cons (e_str (x := Str.ofString "mark")) (al_cons (e_str (x := Str.ofString "a")) (al_nil)))).e) (al_cons (e_tupL (al_cons (e_str (x := Str.ofString "mark")) (al_cons (e_str (x := Str.ofString "abcdefghi")) (al_nil)))) (al_cons (e_tupL (al_cons (e_str (x := Str.ofString "back")) (al_cons (e_str (x := Str.ofString "A")) (al_nil)))) (al_cons (e_tupL (al_cons (e_str (x := Str.ofString "set")) (al_cons (e_str (x := Str.ofString "x")) (al_cons (e_non) (al_nil))))) (al_cons (e_non) (al_cons (e_tupL (al_nil)) (al_cons (e_str (x := Str.ofString "mark")) (al_nil)))))))))).e)) (g_nm 1 nd) rfl lst_inj rfl (by decide) (fun _ => rfl) (fun someV1 => sg_asg (f := .lst) (ρ' := fun someV2 => [.pen, .d (.lst someV2)]) 1 2 (e_add (e_nm 1) ((o_lstL (al_cons (e_int) (al_cons (e_dic0) (al_cons (e_tupL (al_cons (e_tupL (al_nil)) (al_nil))) (al_cons (e_tupL (al_cons (e_str (x := Str.ofString "try")) (al_cons (e_non) (al_cons (e_tupL (al_nil)) (al_nil))))) (al_cons (e_tupL (al_cons (e_str (x := Str.ofString "try")) (al_cons (e_tupL (al_nil)) (al_cons (e_str (x := Str.ofString "ab")) (al_nil))))) (al_cons (e_tupL (al_cons (e_str (x := Str.ofString "del")) (al_cons (e_tupL (al_cons (e_str (x := Str.ofString "x")) (al_nil))) (al_nil)))) (al_cons (e_tupL (al_cons (e_str (x := Str.ofString "try")) (al_cons (e_str (x := Str.ofString "")) (al_cons (e_tupL (al_nil)) (al_nil))))) (al_nil))))))))).e)) (g_nm 1 nd) rfl lst_inj rfl (by decide) (fun _ => rfl) (fun someV2 => sg_asg (f := .lst) (ρ' := fun someV3 => [.pen, .d (.lst someV3)]) 1 2 (e_add (e_nm 1) ((o_lstL (al_cons (e_tupL (al_cons (e_str (x := Str.ofString "try")) (al_cons (e_tupL (al_nil)) (al_cons (e_dic0) (al_nil))))) (al_cons (e_tupL (al_cons (e_str (x := Str.ofString "try")) (al_cons (e_dic0) (al_cons ((o_lstL (al_nil)).e) (al_nil))))) (al_cons (e_tupL (al_cons (e_str (x := Str.ofString "try")) (al_cons (e_tupL (al_cons (e_tupL (al_cons (e_str (x := Str.ofString "mark")) (al_cons (e_str (x := Str.ofString "a")) (al_nil)))) (al_nil))) (al_cons ((o_lstL (al_cons (e_tupL (al_cons (e_str (x := Str.ofString "keep")) (al_cons (e_str (x := Str.ofString "a")) (al_nil)))) (al_cons (e_tupL (al_nil)) (al_nil)))).e) (al_nil))))) (al_nil))))).e)) (g_nm 1 nd) rfl lst_inj rfl (by decide) (fun _ => rfl) (fun someV3 => sg_retT (e_ix (e_nm 1) (e_call (ps := ["_law_deck_here", "_law_many"]) ⟨ok_l_draw T, T.g_l_draw, T.F_l_draw.kp⟩ hg (hr.mono (by decide)) tk T.B_l_draw (v_pen 0 (v_cons (e_int) (v_nil))))) rfl (fun _ => rfl)))))))
end
end Q42

namespace Q42
open PySem PySem.Spec L2 PL
section
variable {P : Program} {w : World} {K : PySem.W.Frag} {mg : Str → Option Value} {base : Heap} (T : Facts K mg)
include T
set_option maxHeartbeats 0 in
theorem ok_l_bent : ∀ n : Nat, FnG P w K mg base (3 + n) T.f_l_bent T.d_l_bent ["_law_deck_here", "_law_thing"] (spM ((deckG.wt T.tb mg).wc true) K mg 2 (m_l_bent n))
  | 0 => ⟨fun vs H Q E ⟨S, pen, args, n, P, PX, hl, _, _, _, _, r, _⟩ => r.len.trans hl, fun A outer s H args us vs Q E hg hr he hb r ⟨S, pen, args, n, P, PX, hl, _, _, _, _, _, q, _⟩ => False.elim q⟩
  | n + 1 => by
    have IH := ok_l_bent n
    have nd := sc_l_bent.nd
    refine fn_okG (m := m_l_bent (n + 1)) (Sh := fun args => ∃ thing : D, args = [.pen, .d thing]) T.F_l_bent sc_l_bent (by decide) (fun args n0 P PX h => ?_) ?_
    · replace h : mm_l_bent (m_l_bent n) args n0 P PX := h
      unfold mm_l_bent at h; split at h
      all_goals first | exact ⟨_, rfl⟩ | exact False.elim h
    · rintro args ⟨thing, rfl⟩ cdv A outer s H E Wx hg hr tk po
      show SG _ _ _ _ _ EnT (d_l_bent (m_l_bent n) thing)
      unfold d_l_bent
      exact (sg_own (ρ' := fun items => [.pen, .d thing, .own items, .un, .un, .un, .un, .un, .un, .un, .un]) 2 11 (o_list (T.z_list) (e_nm 1)) nd rfl rfl (by decide) (fun _ => rfl) (fun items => sg_asg (f := .int) (ρ' := fun atV => [.pen, .d thing, .own items, .d (.int atV), .un, .un, .un, .un, .un, .un, .un]) 3 11 (e_call (ps := ["_law_deck_here", "_law_many"]) ⟨ok_l_draw T, T.g_l_draw, T.F_l_draw.kp⟩ hg (hr.mono (Nat.le_trans (show _ ≤ 3 by decide) (Nat.le_add_right 3 _))) tk T.B_l_draw (v_pen 0 (v_cons (e_add (e_lenOwn 2 (T.z_len)) (e_int)) (v_nil)))) (g_nm 3 nd) rfl int_inj rfl (by decide) (fun _ => rfl) (fun atV => sg_asgLc (ρ' := fun deeper => [.pen, .d thing, .own items, .d (.int atV), .un, .d (.lst deeper), .un, .un, .un, .un, .un]) (own := [("_law_k", 4)]) (t := (.nm 4)) (f := D.int) (mu := ret) (ee := (fun a ρ => ρ.set 4 (.d (.int a)))) 5 11 (fun _ => rfl) (fun x ρ => setT_1 4 D.int x ρ) rfl nd (w_rng1Z (T.z_range) (e_lenOwn 2 (T.z_len))) (blkOk_by (own := [("_law_k", 4)]) (N := sc_l_bent_N) (sc := defScope s_l_bent) (by decide +kernel)) (fun _ _ _ _ _ => g_nm 4 nd) (fun _ _ _ _ _ => ts_one (t_cmp (cm_eq (u64 hr)) (e_ix (e_ixOwn 2 (e_nm 4)) (e_int)) (e_str (x := Str.ofString "try")))) (fun _ _ _ _ _ => e_nm 4) rfl rfl (by decide) (fun _ => rfl) (fun deeper => sg_ifA (emb := (fun j : List D => [.pen, .d thing, .own j, .d (.int atV), .un, .d (.lst deeper), .un, .un, .un, .un, .un])) ((tw_and (t_cmp (cm_ne (u64 hr)) (e_nm 5) ((o_lstL (al_nil)).e)) (tw_and1 (t_cmp (cm_eqI (u64 hr)) (e_call (ps := ["_law_deck_here", "_law_many"]) ⟨ok_l_draw T, T.g_l_draw, T.F_l_draw.kp⟩ hg (hr.mono (Nat.le_trans (show _ ≤ 3 by decide) (Nat.le_add_right 3 _))) tk T.B_l_draw (v_pen 0 (v_cons (e_int) (v_nil)))) (e_int)))).t) rfl
    (sg_asg (f := (fun x => x)) (ρ' := fun k4 => [.pen, .d thing, .own items, .d (.int atV), .d k4, .d (.lst deeper), .un, .un, .un, .un, .un]) 4 11 (e_call (ps := ["_law_deck_here", "_law_some"]) ⟨ok_l_pick T, T.g_l_pick, T.F_l_pick.kp⟩ hg (hr.mono (Nat.le_trans (show _ ≤ 3 by decide) (Nat.le_add_right 3 _))) tk T.B_l_pick (v_pen 0 (v_cons (e_nm 5) (v_nil)))) (g_nm 4 nd) rfl id_inj rfl (by decide) (fun _ => rfl) (fun k4 => sg_asg (f := .int) (ρ' := fun side => [.pen, .d thing, .own items, .d (.int atV), .d k4, .d (.lst deeper), .d (.int side), .un, .un, .un, .un]) 6 11 (e_add (e_int) (e_call (ps := ["_law_deck_here", "_law_many"]) ⟨ok_l_draw T, T.g_l_draw, T.F_l_draw.kp⟩ hg (hr.mono (Nat.le_trans (show _ ≤ 3 by decide) (Nat.le_add_right 3 _))) tk T.B_l_draw (v_pen 0 (v_cons (e_int) (v_nil))))) (g_nm 6 nd) rfl int_inj rfl (by decide) (fun _ => rfl) (fun side => sg_asg (f := (fun x => x)) (ρ' := fun item => [.pen, .d thing, .own items, .d (.int atV), .d k4, .d (.lst deeper), .d (.int side), .d item, .un, .un, .un]) 7 11 (e_ixOwn 2 (e_asI (e_nm 4))) (g_nm 7 nd) rfl id_inj rfl (by decide) (fun _ => rfl) (fun item => sg_asg (f := (fun x => x)) (ρ' := fun inner => [.pen, .d thing, .own items, .d (.int atV), .d k4, .d (.lst deeper), .d (.int side), .d item, .d inner, .un, .un]) 8 11 (e_call (ps := ["_law_deck_here", "_law_thing"]) ⟨IH, T.g_l_bent, T.F_l_bent.kp⟩ hg hr tk T.B_l_bent (v_pen 0 (v_cons (e_ix (e_nm 7) (e_nm 6)) (v_nil)))) (g_nm 8 nd) rfl id_inj rfl (by decide) (fun _ => rfl) (fun inner => sg_setL (xs := items) (ρ' := fun items1 => [.pen, .d thing, .own items1, .d (.int atV), .d k4, .d (.lst deeper), .d (.int side), .d item, .d inner, .un, .un]) 2 11 (e_asI (e_nm 4)) (e_add (e_add (e_sl (e_nm 7) (p_none) (p_some (e_nm 6))) (e_tupL (hz := Nat.le_of_ble_eq_true rfl) (al_cons (e_nm 8) (al_nil)))) (e_sl (e_nm 7) (p_some (e_add (e_nm 6) (e_int))) (p_none))) rfl rfl rfl (by decide) (fun _ => rfl) (fun items1 => sg_nil ⟨items1, rfl, (Le.same (Le.same (Le.same (Le.same (Le.un (Le.same (Le.un (Le.un (Le.un (Le.same (Le.same (Le.nil))))))))))))⟩))))))
    (sg_par2 (f1 := fun a : List D × Int => (.lst a.1)) (f2 := fun a : List D × Int => (.int a.2)) (ρ' := fun p => [.pen, .d thing, .own items, .d (.int atV), .un, .d (.lst deeper), .un, .un, .un, .d (.lst p.1), .d (.int p.2)]) 9 10 11 (al_cons ((o_lstL (hz := Nat.le_of_ble_eq_true rfl) (al_cons (e_call (ps := ["_law_deck_here"]) ⟨ok_l_strange T, T.g_l_strange, T.F_l_strange.kp⟩ hg (hr.mono (Nat.le_trans (show _ ≤ 3 by decide) (Nat.le_add_right 3 _))) tk T.B_l_strange (v_pen 0 (v_nil))) (al_nil))).e) (al_cons (e_call (ps := ["_law_deck_here", "_law_many"]) ⟨ok_l_draw T, T.g_l_draw, T.F_l_draw.kp⟩ hg (hr.mono (Nat.le_trans (show _ ≤ 3 by decide) (Nat.le_add_right 3 _))) tk T.B_l_draw (v_pen 0 (v_cons (e_int) (v_nil)))) (al_nil))) rfl nd rfl (fun a b h1 h2 => Prod.ext (lst_inj _ _ h1) (int_inj _ _ h2)) rfl (by decide) (by decide) (by decide) (fun _ => rfl) (fun p => sg_own (ρ' := fun items2 => [.pen, .d thing, .own items2, .d (.int atV), .un, .d (.lst deeper), .un, .un, .un, .d (.lst p.1), .d (.int p.2)]) 2 11 (e_cat (e_add ((o_slOwn 2 (p_none) (p_some (e_nm 3))).e) (e_nm 9)) ((o_slOwn 2 (p_some (e_add (e_nm 3) (e_nm 10))) (p_none)).e)) nd rfl rfl (by decide) (fun _ => rfl) (fun items2 => sg_nil ⟨items2, rfl, (Le.same (Le.same (Le.same (Le.same (Le.same (Le.same (Le.same (Le.same (Le.same (Le.un (Le.un (Le.nil))))))))))))⟩)))
    (fun j => sg_retT (e_ix ((o_lstL (hz := Nat.le_of_ble_eq_true rfl) (al_cons (e_tuple (T.z_tuple) (e_nm 2)) (al_cons (e_nm 2) (al_nil)))).e) (e_call (ps := ["_law_deck_here", "_law_many"]) ⟨ok_l_draw T, T.g_l_draw, T.F_l_draw.kp⟩ hg (hr.mono (Nat.le_trans (show _ ≤ 3 by decide) (Nat.le_add_right 3 _))) tk T.B_l_draw (v_pen 0 (v_cons (e_int) (v_nil))))) rfl (fun _ => rfl))))))
theorem okk_l_bent : FnG P w K mg base 10 T.f_l_bent T.d_l_bent ["_law_deck_here", "_law_thing"] (spM ((deckG.wt T.tb mg).wc true) K mg 2 k_l_bent) := by
  rw [k_l_bent_eq]
  exact ok_l_bent T 7
end
end Q42

namespace Q42
open PySem PySem.Spec L2 PL
section
variable {P : Program} {w : World} {K : PySem.W.Frag} {mg : Str → Option Value} {base : Heap} (T : Facts K mg)
include T
set_option maxHeartbeats 0 in
theorem ok_l_nested : FnG P w K mg base 1 T.f_l_nested T.d_l_nested ["_law_depth"] (spM ((deckG.wt T.tb mg).wc true) K mg 1 m_l_nested) := by
  have nd := sc_l_nested.nd
  refine fn_okG (m := m_l_nested) (Sh := fun args => ∃ depth : D, args = [.d depth]) T.F_l_nested sc_l_nested (by decide) (fun args n P PX h => ?_) ?_
  · unfold m_l_nested at h; split at h
    all_goals first | exact ⟨_, rfl⟩ | exact False.elim h
  · rintro args ⟨depth, rfl⟩ cdv A outer s H E Wx hg hr tk po
    show SG _ _ _ _ _ EnT (d_l_nested depth)
    unfold d_l_nested
    exact (sg_asgP (d := (.lst [(.tup [(.str (Str.ofString "mark")), (.str (Str.ofString "a"))])])) (ρ' := [.d depth, .d (.lst [(.tup [(.str (Str.ofString "mark")), (.str (Str.ofString "a"))])]), .un]) 1 ((o_lstL (al_cons (e_tupL (al_cons (e_str (x := Str.ofString "mark")) (al_cons (e_str (x := Str.ofString "a")) (al_nil)))) (al_nil))).e) (g_nm 1 nd) rfl rfl (sg_forI (t := (.nm 2)) (f := D.int) (emb := (fun j : List D => [.d depth, .d (.lst j), .un])) (e := (fun a j => [.d depth, .d (.lst j), .d (.int a)])) po rfl (w_rng1Z (T.z_range) (e_asI (e_nm 0))) (g_nm 2 nd) rfl (fun _ => rfl) int_inj (Le.same (Le.same (Le.same (Le.nil)))) (fun x j => rfl) (fun j a b h => int_inj _ _ (by have q := congrArg (·[2]?) h; exact SV.d.inj (Option.some.inj q)))
    (fun k j => sg_asgP (d := (.lst [(.tup [(.str (Str.ofString "try")), (.lst j), (.tup [])])])) (ρ' := [.d depth, .d (.lst [(.tup [(.str (Str.ofString "try")), (.lst j), (.tup [])])]), .d (.int k)]) 1 ((o_lstL (al_cons (e_tupL (al_cons (e_str (x := Str.ofString "try")) (al_cons (e_nm 1) (al_cons (e_tupL (al_nil)) (al_nil))))) (al_nil))).e) (g_nm 1 nd) rfl rfl (sg_nil ⟨[(.tup [(.str (Str.ofString "try")), (.lst j), (.tup [])])], rfl, (Le.same (Le.same (Le.un (Le.nil))))⟩))
    (fun j1 => sg_retP (d := (.lst j1)) (e_nm 1) rfl rfl)))
end
end Q42

namespace Q42
open PySem PySem.Spec L2 PL
section
variable {P : Program} {w : World} {K : PySem.W.Frag} {mg : Str → Option Value} {base : Heap} (T : Facts K mg)
include T
set_option maxHeartbeats 0 in
theorem ok_law (holds : d_law n0 (fun d _ => d = .bl true) (fun _ _ => False)) : FnG P w K mg base 14 T.f_law T.d_law ["_law_script"] (spLaw K) :=
  have nd := sc_law.nd
  law_defK ((deckG.wt T.tb mg).wc true) (b := d_law) (k := 13) (NR := ["_law_turn", "_law_labels_here", "_law_block_here", "_law_some", "_law_other", "_law_thing", "_law_kept", "_law_due_here", "_law_told", "_law_many", "_law_tries", "_law_good", "_law_bad", "_law_k"]) T.F_law sc_law rfl rfl rfl rfl (by first | exact .inl rfl | exact .inr rfl) (by decide) (by decide) (by decide) ((ok_l_deck T.F_l_deck T.z_list).mono (by decide)) T.g_l_deck T.F_l_deck.kp T.B_l_deck (fun cdv A outer s H E Wx hg hr tk po => by
    unfold d_law
    exact (sg_forI (t := (.nm 2)) (f := D.int) (emb := (fun j : Unit => [.un, .pen, .un, .un, .un, .un, .un, .un, .un, .un, .un, .un, .un, .un, .un, .un])) (e := (fun a j => [.un, .pen, .d (.int a), .un, .un, .un, .un, .un, .un, .un, .un, .un, .un, .un, .un, .un])) po rfl (w_rngK (w_rng1Z (T.z_range) (e_int))) (g_nm 2 nd) rfl (fun _ => rfl) int_inj (Le.same (Le.same (Le.same (Le.same (Le.same (Le.same (Le.same (Le.same (Le.same (Le.same (Le.same (Le.same (Le.same (Le.same (Le.same (Le.same (Le.nil))))))))))))))))) (fun x j => rfl) (fun j a b h => int_inj _ _ (by have q := congrArg (·[2]?) h; exact SV.d.inj (Option.some.inj q)))
    (fun turn j => sg_asg (f := (fun x => x)) (ρ' := fun labels => [.un, .pen, .d (.int turn), .d labels, .un, .un, .un, .un, .un, .un, .un, .un, .un, .un, .un, .un]) 3 16 (e_call (ps := ["_law_deck_here", "_law_many"]) ⟨ok_l_labels T, T.g_l_labels, T.F_l_labels.kp⟩ hg (hr.mono (by decide)) tk T.B_l_labels (v_pen 1 (v_cons (e_int) (v_nil)))) (g_nm 3 nd) rfl id_inj rfl (by decide) (fun _ => rfl) (fun labels => sg_asg (f := (fun x => x)) (ρ' := fun block => [.un, .pen, .d (.int turn), .d labels, .d block, .un, .un, .un, .un, .un, .un, .un, .un, .un, .un, .un]) 4 16 (e_call (ps := ["_law_deck_here", "_law_keys", "_law_labels_here", "_law_room", "_law_depth"]) ⟨okk_l_block T, T.g_l_block, T.F_l_block.kp⟩ hg (hr.mono (by decide)) tk T.B_l_block (v_pen 1 (v_cons (e_nm 3) (v_cons (e_nm 3) (v_mkL rfl (o_lstL (al_cons (e_int) (al_cons (e_int) (al_nil)))) (v_cons (e_int) (v_nil))))))) (g_nm 4 nd) rfl id_inj rfl (by decide) (fun _ => rfl) (fun block => sg_own (ρ' := fun someV => [.un, .pen, .d (.int turn), .d labels, .d block, .own someV, .un, .un, .un, .un, .un, .un, .un, .un, .un, .un]) 5 16 (e_cat ((o_lstL (al_cons (e_nm 4) (al_nil))).e) ((o_lcQ (own := [("_law_k", 15)]) (t := (.nm 15)) (f := D.int) (mu := ret) (ee := (fun a ρ => ρ.set 15 (.d (.int a)))) (fun _ => rfl) (fun x ρ => setT_1 15 D.int x ρ) rfl nd (w_rngK (w_rng1Z (T.z_range) (e_int))) (blkOk_by (own := [("_law_k", 15)]) (N := sc_law_N) (sc := defScope s_law) (by decide +kernel)) (fun _ _ _ _ _ => g_nm 15 nd) (fun _ _ _ _ _ => ts_nil) (fun _ _ _ _ _ => e_call (ps := ["_law_deck_here", "_law_thing"]) ⟨okk_l_bent T, T.g_l_bent, T.F_l_bent.kp⟩ hg (hr.mono (by decide)) L2.takes0 T.B_l_bent (v_pen 1 (v_cons (e_nm 4) (v_nil))))).e)) nd rfl rfl (by decide) (fun _ => rfl) (fun someV => sg_asgP (d := (.lst [block, (.lst [block]), (.tup [block]), (.tup [(.str (Str.ofString "try")), block, block]), (.lst [(.tup [(.str (Str.ofString "try")), block, block])])])) (ρ' := [.un, .pen, .d (.int turn), .d labels, .d block, .own someV, .d (.lst [block, (.lst [block]), (.tup [block]), (.tup [(.str (Str.ofString "try")), block, block]), (.lst [(.tup [(.str (Str.ofString "try")), block, block])])]), .un, .un, .un, .un, .un, .un, .un, .un, .un]) 6 ((o_lstL (al_cons (e_nm 4) (al_cons ((o_lstL (al_cons (e_nm 4) (al_nil))).e) (al_cons (e_tupL (al_cons (e_nm 4) (al_nil))) (al_cons (e_tupL (al_cons (e_str (x := Str.ofString "try")) (al_cons (e_nm 4) (al_cons (e_nm 4) (al_nil))))) (al_cons ((o_lstL (al_cons (e_tupL (al_cons (e_str (x := Str.ofString "try")) (al_cons (e_nm 4) (al_cons (e_nm 4) (al_nil))))) (al_nil))).e) (al_nil))))))).e) (g_nm 6 nd) rfl rfl (sg_app (f := (fun x => x)) (ρ' := fun app => [.un, .pen, .d (.int turn), .d labels, .d block, .own (someV ++ [app]), .d (.lst [block, (.lst [block]), (.tup [block]), (.tup [(.str (Str.ofString "try")), block, block]), (.lst [(.tup [(.str (Str.ofString "try")), block, block])])]), .un, .un, .un, .un, .un, .un, .un, .un, .un]) (xs := someV) 5 16 (e_ix (e_nm 6) (e_call (ps := ["_law_deck_here", "_law_many"]) ⟨ok_l_draw T, T.g_l_draw, T.F_l_draw.kp⟩ hg (hr.mono (by decide)) tk T.B_l_draw (v_pen 1 (v_cons (e_int) (v_nil))))) rfl rfl id_inj rfl (by decide) (fun _ => rfl) (fun app => sg_frz (ρ' := [.un, .pen, .d (.int turn), .d labels, .d block, .d (.lst (someV ++ [app])), .d (.lst [block, (.lst [block]), (.tup [block]), (.tup [(.str (Str.ofString "try")), block, block]), (.lst [(.tup [(.str (Str.ofString "try")), block, block])])]), .un, .un, .un, .un, .un, .un, .un, .un, .un]) 5 rfl (sg_forIP (t := (.nm 7)) (f := (fun y : D => y)) (emb := (fun j1 : Unit => [.un, .pen, .d (.int turn), .d labels, .d block, .d (.lst (someV ++ [app])), .d (.lst [block, (.lst [block]), (.tup [block]), (.tup [(.str (Str.ofString "try")), block, block]), (.lst [(.tup [(.str (Str.ofString "try")), block, block])])]), .un, .un, .un, .un, .un, .un, .un, .un, .un])) (e := (fun a j1 => [.un, .pen, .d (.int turn), .d labels, .d block, .d (.lst (someV ++ [app])), .d (.lst [block, (.lst [block]), (.tup [block]), (.tup [(.str (Str.ofString "try")), block, block]), (.lst [(.tup [(.str (Str.ofString "try")), block, block])])]), .d a, .un, .un, .un, .un, .un, .un, .un, .un])) po rfl (w_seqZ (e_nm 5)) (g_nm 7 nd) rfl seqT_map id_inj (Le.same (Le.same (Le.same (Le.same (Le.same (Le.same (Le.same (Le.same (Le.same (Le.same (Le.same (Le.same (Le.same (Le.same (Le.same (Le.same (Le.nil))))))))))))))))) (fun x j => rfl) (fun j a b h => id_inj _ _ (by have q := congrArg (·[7]?) h; exact SV.d.inj (Option.some.inj q)))
    (fun thing j1 => sg_asg (f := (fun x => x)) (ρ' := fun kept => [.un, .pen, .d (.int turn), .d labels, .d block, .d (.lst (someV ++ [app])), .d (.lst [block, (.lst [block]), (.tup [block]), (.tup [(.str (Str.ofString "try")), block, block]), (.lst [(.tup [(.str (Str.ofString "try")), block, block])])]), .d thing, .d kept, .un, .un, .un, .un, .un, .un, .un]) 8 16 (e_repr (T.z_repr) hg hr (e_nm 7)) (g_nm 8 nd) rfl id_inj rfl (by decide) (fun _ => rfl) (fun kept => sg_asg (f := (fun x => x)) (ρ' := fun due => [.un, .pen, .d (.int turn), .d labels, .d block, .d (.lst (someV ++ [app])), .d (.lst [block, (.lst [block]), (.tup [block]), (.tup [(.str (Str.ofString "try")), block, block]), (.lst [(.tup [(.str (Str.ofString "try")), block, block])])]), .d thing, .d kept, .d due, .un, .un, .un, .un, .un, .un]) 9 16 (e_repr (T.z_repr) hg hr (e_rep ((o_lstL (al_cons (e_call (ps := ["_law_thing"]) ⟨ok_l_due T, T.g_l_due, T.F_l_due.kp⟩ hg (hr.mono (by decide)) tk T.B_l_due (v_cons (e_nm 7) (v_nil))) (al_nil))).e) (e_int))) (g_nm 9 nd) rfl id_inj rfl (by decide) (fun _ => rfl) (fun due => sg_asg (f := .lst) (ρ' := fun told => [.un, .pen, .d (.int turn), .d labels, .d block, .d (.lst (someV ++ [app])), .d (.lst [block, (.lst [block]), (.tup [block]), (.tup [(.str (Str.ofString "try")), block, block]), (.lst [(.tup [(.str (Str.ofString "try")), block, block])])]), .d thing, .d kept, .d due, .d (.lst told), .un, .un, .un, .un, .un]) 10 16 ((o_lstL (al_cons (e_call (ps := ["value"]) ⟨ok_is_program T, T.g_is_program, T.F_is_program.kp⟩ hg (hr.mono (by decide)) tk T.B_is_program (v_cons (e_nm 7) (v_nil))) (al_cons (e_callK0 (ps := ["value"]) ⟨ok_is_program T, T.g_is_program, T.F_is_program.kp⟩ hg (hr.mono (by decide)) tk (kbd (n := 0) (ks := ["value"]) (order := [0]) T.F_is_program fun _ _ _ _ _ _ us ws h1 h2 => match us, ws, h1, h2 with | [], [_], _, _ => rfl) (kv_cons (e_nm 7) (kv_nil))) (al_nil)))).e) (g_nm 10 nd) rfl lst_inj rfl (by decide) (fun _ => rfl) (fun told => sg_if ((tw_or (t_cmp (cm_ne (u64 hr)) (e_repr (T.z_repr) hg hr (e_nm 10)) (e_nm 9)) (tw_or1 (t_cmp (cm_ne (u64 hr)) (e_repr (T.z_repr) hg hr (e_nm 7)) (e_nm 8)))).t) rfl
    (sg_retP (d := (.bl false)) (e_bl) rfl ⟨ret (.out (.bl false)), ⟨ret (.bl false), rfl, rfl⟩, rfl⟩)
    (sg_push (sg_nil ⟨(), rfl, (Le.same (Le.same (Le.same (Le.same (Le.same (Le.same (Le.same (Le.un (Le.un (Le.un (Le.un (Le.same (Le.same (Le.same (Le.same (Le.same (Le.nil)))))))))))))))))⟩))))))
    (fun j2 => sg_nil ⟨(), rfl, (Le.same (Le.same (Le.un (Le.un (Le.un (Le.un (Le.un (Le.same (Le.same (Le.same (Le.same (Le.same (Le.same (Le.same (Le.same (Le.same (Le.nil)))))))))))))))))⟩))))))))
    (fun j3 => sg_asg (f := (fun x => x)) (ρ' := fun many => [.un, .pen, .un, .un, .un, .un, .un, .un, .un, .un, .un, .d many, .un, .un, .un, .un]) 11 16 (e_rep ((o_lstL (al_cons (e_tupL (al_cons (e_str (x := Str.ofString "mark")) (al_cons (e_str (x := Str.ofString "a")) (al_nil)))) (al_nil))).e) (e_int)) (g_nm 11 nd) rfl id_inj rfl (by decide) (fun _ => rfl) (fun many => sg_asg (f := (fun x => x)) (ρ' := fun tries => [.un, .pen, .un, .un, .un, .un, .un, .un, .un, .un, .un, .d many, .d tries, .un, .un, .un]) 12 16 (e_rep ((o_lstL (al_cons (e_tupL (al_cons (e_str (x := Str.ofString "try")) (al_cons (e_tupL (al_nil)) (al_cons (e_tupL (al_nil)) (al_nil))))) (al_nil))).e) (e_int)) (g_nm 12 nd) rfl id_inj rfl (by decide) (fun _ => rfl) (fun tries => sg_asg (f := .lst) (ρ' := fun good => [.un, .pen, .un, .un, .un, .un, .un, .un, .un, .un, .un, .d many, .d tries, .d (.lst good), .un, .un]) 13 16 ((o_lstL (al_cons (e_tupL (al_nil)) (al_cons ((o_lstL (al_nil)).e) (al_cons (e_nm 11) (al_cons (e_nm 12) (al_cons (e_call (ps := ["_law_depth"]) ⟨ok_l_nested T, T.g_l_nested, T.F_l_nested.kp⟩ hg (hr.mono (by decide)) tk T.B_l_nested (v_cons (e_int) (v_nil))) (al_cons ((o_lstL (al_cons (e_tupL (al_cons (e_str (x := Str.ofString "try")) (al_cons (e_sl (e_nm 11) (p_none) (p_some (e_int))) (al_cons (e_tuple (T.z_tuple) (e_sl (e_nm 11) (p_none) (p_some (e_int)))) (al_nil))))) (al_nil))).e) (al_cons (e_add (e_sl (e_nm 11) (p_none) (p_some (e_int))) (e_call (ps := ["_law_depth"]) ⟨ok_l_nested T, T.g_l_nested, T.F_l_nested.kp⟩ hg (hr.mono (by decide)) tk T.B_l_nested (v_cons (e_int) (v_nil)))) (al_nil))))))))).e) (g_nm 13 nd) rfl lst_inj rfl (by decide) (fun _ => rfl) (fun good => sg_asg (f := .lst) (ρ' := fun bad => [.un, .pen, .un, .un, .un, .un, .un, .un, .un, .un, .un, .d many, .d tries, .d (.lst good), .d (.lst bad), .un]) 14 16 ((o_lstL (al_cons (e_add (e_nm 11) (e_sl (e_nm 11) (p_none) (p_some (e_int)))) (al_cons (e_add (e_nm 12) (e_sl (e_nm 12) (p_none) (p_some (e_int)))) (al_cons (e_call (ps := ["_law_depth"]) ⟨ok_l_nested T, T.g_l_nested, T.F_l_nested.kp⟩ hg (hr.mono (by decide)) tk T.B_l_nested (v_cons (e_int) (v_nil))) (al_cons ((o_lstL (al_cons (e_tupL (al_cons (e_str (x := Str.ofString "try")) (al_cons (e_nm 11) (al_cons (e_sl (e_nm 11) (p_none) (p_some (e_int))) (al_nil))))) (al_nil))).e) (al_cons (e_add (e_nm 11) (e_call (ps := ["_law_depth"]) ⟨ok_l_nested T, T.g_l_nested, T.F_l_nested.kp⟩ hg (hr.mono (by decide)) tk T.B_l_nested (v_cons (e_int) (v_nil)))) (al_cons (e_non) (al_nil)))))))).e) (g_nm 14 nd) rfl lst_inj rfl (by decide) (fun _ => rfl) (fun bad => sg_asg (f := .lst) (ρ' := fun bad1 => [.un, .pen, .un, .un, .un, .un, .un, .un, .un, .un, .un, .d many, .d tries, .d (.lst good), .d (.lst bad1), .un]) 14 16 (e_add (e_nm 14) ((o_lstL (al_cons (e_int) (al_cons (e_str (x := Str.ofString "")) (al_cons (e_str (x := Str.ofString "mark")) (al_cons (e_tupL (al_cons (e_str (x := Str.ofString "mark")) (al_cons (e_str (x := Str.ofString "a")) (al_nil)))) (al_cons (e_dic0) (al_cons ((o_lstL (al_cons (e_non) (al_nil))).e) (al_cons (e_tupL (al_cons (e_tupL (al_nil)) (al_nil))) (al_cons (e_bl) (al_cons ((o_lstL (al_cons (e_tupL (al_cons (e_str (x := Str.ofString "try")) (al_cons (e_nm 12) (al_cons (e_tupL (al_nil)) (al_nil))))) (al_nil))).e) (al_cons (e_add (e_nm 12) (e_call (ps := ["_law_depth"]) ⟨ok_l_nested T, T.g_l_nested, T.F_l_nested.kp⟩ hg (hr.mono (by decide)) tk T.B_l_nested (v_cons (e_int) (v_nil)))) (al_nil)))))))))))).e)) (g_nm 14 nd) rfl lst_inj rfl (by decide) (fun _ => rfl) (fun bad1 => sg_retT (e_cmp (cm_eq (u64 hr)) ((o_lcQ (own := [("_law_thing", 7)]) (t := (.nm 7)) (f := (fun y : D => y)) (mu := ret) (ee := (fun a ρ => ρ.set 7 (.d a))) seqT_map (fun x ρ => setT_1 7 (fun y : D => y) x ρ) rfl nd (w_seqZ (e_add (e_nm 13) (e_nm 14))) (blkOk_by (own := [("_law_thing", 7)]) (N := sc_law_N) (sc := defScope s_law) (by decide +kernel)) (fun _ _ _ _ _ => g_nm 7 nd) (fun _ _ _ _ _ => ts_nil) (fun _ _ _ _ _ => e_call (ps := ["value"]) ⟨ok_is_program T, T.g_is_program, T.F_is_program.kp⟩ hg (hr.mono (by decide)) L2.takes0 T.B_is_program (v_cons (e_nm 7) (v_nil)))).e) (e_add (e_rep ((o_lstL (al_cons (e_bl) (al_nil))).e) (e_int)) (e_rep ((o_lstL (al_cons (e_bl) (al_nil))).e) (e_int)))) rfl (fun _ => rfl))))))))) holds
end
end Q42

namespace Q42
open PySem PySem.Spec L2 PL
/-! ### words, values, maps of the program -/
theorem is_word_eq (x : D) : d_is_word x = ret (.bl (wordB x)) := by
  unfold d_is_word
  cases x with
  | str s =>
    simp only [isT, lenI, codesD, bnd_ret, thenB_bl, blB_bl, orB_ret, Bool.not_true, Bool.false_or]
    by_cases h1 : 1 ≤ (s.length : Int)
    · by_cases h2 : (s.length : Int) ≤ 8
      · simp only [h1, h2, decide_true, Bool.and_self, Bool.not_true, Bool.false_eq_true, if_false]
        rw [mapP_ret (g := fun k => .bl (lower k)) (short8 h2) fun k _ => in_abc k, bnd_ret, all_bls]
        simp [wordB, h1, h2]
      · simp [h1, h2, wordB]
    · simp [h1, wordB]
  | _ => simp [isT, orB, bnd_ret, wordB]
theorem is_integer_eq (x : D) : d_is_integer x = ret (.bl (match x with | .int _ => true | _ => false)) := by
  unfold d_is_integer
  cases x <;> rfl
theorem is_value_eq (x : D) : d_is_value x = ret (.bl (numB x)) := by
  unfold d_is_value d_is_between
  rw [is_integer_eq]
  cases x with
  | int i =>
    simp only [cl_ret, andD_t, leD_int, thenB_bl]
    rfl
  | _ => simp only [cl_ret, andD_f, numB]
/-! ### commands, tries -/
theorem in_four (a b c d e : Str) : inFlat false (.str a) (.tup [.str b, .str c, .str d, .str e]) = ret (.bl (b == a || (c == a || (d == a || e == a)))) := by
  show grd _ _ = _
  rw [grd_pos ⟨rfl, rfl⟩]
  simp [scEq]
def kindB (a : Str) : Bool := Str.ofString "del" == a || (Str.ofString "mark" == a || (Str.ofString "back" == a || Str.ofString "keep" == a))
def cmdB : D → Bool
  | .tup [.str a, w] => wordB w && kindB a
  | .tup [.str a, w, x] => wordB w && (a == Str.ofString "set") && numB x
  | _ => false
theorem kset : kindB (Str.ofString "set") = false := by decide +kernel
theorem set_or (a : Str) : a = Str.ofString "set" ∨ (a == Str.ofString "set") = false := by
  cases h : a == Str.ofString "set"
  · exact .inr rfl
  · exact .inl (eq_of_beq h)
def isStr : D → Bool
  | .str _ => true
  | _ => false
theorem isT_str (x : D) : isT .str x = isStr x := by cases x <;> rfl
theorem cmdB_head {x : D} {r : List D} (h : isStr x = false) : cmdB (.tup (x :: r)) = false := by
  cases x with
  | str _ => cases h
  | _ => rcases r with _ | ⟨_, _ | ⟨_, _ | _⟩⟩ <;> rfl
theorem is_command_eq (x : D) : d_is_command x = ret (.bl (cmdB x)) := by
  unfold d_is_command
  cases x with
  | tup xs =>
    rcases xs with _ | ⟨a, _ | ⟨w, r⟩⟩
    · rfl
    · simp only [isT, lenI_tup, bnd_ret, Bool.not_true, orB_f, List.length_cons, List.length_nil]
      cases a <;> rfl
    · have hl : decide ((((a :: w :: r).length : Nat) : Int) < 2) = false := by
        simp only [List.length_cons, decide_eq_false_iff_not]; omega
      cases ha : isStr a with
      | false =>
        simp only [lenI_tup, bnd_ret, hl, ix0, isT_str, ha, cmdB_head ha]
        rfl
      | true =>
        cases a with
        | str a =>
          simp only [lenI_tup, bnd_ret, hl, ix0, ix1, isT_str, isStr, is_word_eq, cl_ret, tru_bl, eqB_str, show isT .tup (.tup (.str a :: w :: r)) = true from rfl, orB_ret, Bool.not_true, Bool.false_or]
          cases hw : wordB w with
          | false =>
            rw [Bool.not_false, if_pos rfl]
            rcases r with _ | ⟨x, _ | _⟩ <;> simp [cmdB, hw]
          | true =>
            rw [Bool.not_true, if_neg (by decide)]
            rcases set_or a with rfl | h
            · rw [beq_self_eq_true, if_pos rfl]
              rcases r with _ | ⟨x, _ | ⟨y, r⟩⟩
              · simp [cmdB, hw, kset, andD_f]
              · simp [cmdB, hw, ix2, bnd_ret, is_value_eq, cl_ret, andD_t]
              · rw [decide_eq_false (by simp only [List.length_cons]; omega), andD_f]
                rfl
            · rw [h, if_neg (by decide)]
              rcases r with _ | ⟨x, r⟩
              · simp [cmdB, hw, andD_t, in_four, kindB]
              · rw [decide_eq_false (by simp only [List.length_cons]; omega), andD_f]
                rcases r with _ | ⟨y, r⟩
                · simp [cmdB, h]
                · rfl
        | _ => cases ha
  | _ => rfl
theorem l_whole_eq (x : D) : d_l_whole x = ret (.bl (match x with | .int _ => true | _ => false)) := by
  unfold d_l_whole
  cases x <;> rfl
theorem notin_abc (k : Nat) : inStr true (chD k) (.str (Str.ofString "abcdefghijklmnopqrstuvwxyz")) = ret (.bl (!lower k)) := by
  rw [← letters]
  rfl
theorem l_label_eq (x : D) : d_l_label x = ret (.bl (wordB x)) := by
  unfold d_l_label
  cases x with
  | str s =>
    simp only [isT, lenI, codesD, bnd_ret, thenB_bl, blB_bl, orB_ret, Bool.not_true, Bool.false_or]
    by_cases h1 : 1 ≤ (s.length : Int)
    · by_cases h2 : (s.length : Int) ≤ 8
      · simp only [h1, h2, decide_true, Bool.and_self, Bool.not_true, Bool.false_eq_true, if_false]
        rw [selP_ret (p := fun k => !lower k) (g := chD) (short8 h2) (fun k _ => by
          rw [notin_abc, bnd_ret, blB_bl, bnd_ret]) (fun k _ _ => rfl), bnd_ret, eqB_nil, bnd_ret]
        congr 2
        simp only [wordB, h1, h2, decide_true, Bool.true_and]
        induction s.cps.toList with
        | nil => rfl
        | cons k l ih =>
          rw [List.filter_cons, List.all_cons]
          cases q : lower k with
          | true => simpa [q] using ih
          | false => simp [q]
      · simp [h1, h2, wordB]
    · simp [h1, wordB]
  | _ => simp [isT, orB, bnd_ret, wordB]
theorem in23 (i : Int) : inFlat true (.int i) (.tup [.int 2, .int 3]) = ret (.bl (!(decide (i = 2) || decide (i = 3)))) := by
  show grd _ _ = _
  rw [grd_pos ⟨rfl, rfl⟩]
  simp only [List.any_cons, List.any_nil, Bool.or_false, scEq]
  rw [show ((2 : Int) == i) = decide (i = 2) from by rw [Bool.beq_comm]; rfl, show ((3 : Int) == i) = decide (i = 3) from by rw [Bool.beq_comm]; rfl]
  rfl
theorem l_is_command_eq (x : D) : d_l_is_command x = ret (.bl (cmdB x)) := by
  unfold d_l_is_command
  cases x with
  | tup xs =>
    have fin : ∀ a w r, (∀ i : Int, i = ((a :: w :: r : List D).length : Nat) → (i = 2 ∨ i = 3)) → d_l_is_command (.tup (a :: w :: r)) = ret (.bl (cmdB (.tup (a :: w :: r)))) := by
      intro a w r hl
      have hl := hl _ rfl
      have hd : (!(decide ((((a :: w :: r).length : Nat) : Int) = 2) || decide ((((a :: w :: r).length : Nat) : Int) = 3))) = false := by
        rcases hl with h | h <;> simp only [h] <;> decide
      unfold d_l_is_command
      cases ha : isStr a with
      | false =>
        simp only [lenI_tup, bnd_ret, in23, blB_bl, hd, ix0, isT_str, ha, cmdB_head ha]
        rfl
      | true =>
        cases a with
        | str a =>
          simp only [lenI_tup, bnd_ret, in23, blB_bl, hd, ix0, ix1, isT_str, isStr, l_label_eq, cl_ret, tru_bl, eqB_str, show isT .tup (.tup (.str a :: w :: r)) = true from rfl, orB_ret, Bool.not_true, Bool.false_or, Bool.false_eq_true, if_false]
          cases hw : wordB w with
          | false =>
            rw [Bool.not_false, if_pos rfl]
            rcases r with _ | ⟨x, _ | _⟩ <;> simp [cmdB, hw]
          | true =>
            rw [Bool.not_true, if_neg (by decide)]
            rcases set_or a with rfl | h
            · rw [beq_self_eq_true, if_pos rfl]
              rcases r with _ | ⟨x, _ | ⟨y, r⟩⟩
              · simp [cmdB, hw, kset, andD_f]
              · rw [show decide (((([.str (Str.ofString "set"), w, x] : List D).length : Nat) : Int) = 3) = true from rfl, andD_t, ix2, bnd_ret, l_whole_eq, cl_ret]
                cases x with
                | int i => simp [cmdB, hw, andD_t, intI, bnd_ret, thenB_bl, numB]
                | _ => simp [cmdB, hw, andD_f, numB]
              · rw [decide_eq_false (by simp only [List.length_cons]; omega), andD_f]
                rfl
            · rw [h, if_neg (by decide)]
              rcases r with _ | ⟨x, r⟩
              · simp [cmdB, hw, andD_t, in_four, kindB]
              · rw [decide_eq_false (by simp only [List.length_cons]; omega), andD_f]
                rcases r with _ | ⟨y, r⟩
                · simp [cmdB, h]
                · rfl
        | _ => cases ha
    rcases xs with _ | ⟨a, _ | ⟨w, _ | ⟨x, _ | ⟨y, r⟩⟩⟩⟩
    · rw [lenI_tup, bnd_ret, in23, bnd_ret, blB_bl]; rfl
    · rw [lenI_tup, bnd_ret, in23, bnd_ret, blB_bl]
      cases a <;> rfl
    · have := fin a w [] (fun i hi => .inl (by rw [hi]; rfl))
      unfold d_l_is_command at this
      exact this
    · have := fin a w [x] (fun i hi => .inr (by rw [hi]; rfl))
      unfold d_l_is_command at this
      exact this
    · rw [lenI_tup, bnd_ret, in23, bnd_ret, blB_bl, decide_eq_false (by simp only [List.length_cons]; omega), decide_eq_false (by simp only [List.length_cons]; omega)]
      cases a <;> rfl
  | _ => rfl
def trW : Str := Str.ofString "try"
def tryP : D → Option (D × D)
  | .tup [.str a, x, y] => if a == trW then some (x, y) else none
  | _ => none
theorem is_try_eq (x : D) : d_is_try x = ret (.bl (tryP x).isSome) := by
  unfold d_is_try
  cases x with
  | tup xs =>
    rcases xs with _ | ⟨a, _ | ⟨w, _ | ⟨x, _ | ⟨y, r⟩⟩⟩⟩
    · rfl
    · cases a <;> rfl
    · cases a <;> rfl
    · cases a with
      | str a =>
        simp only [isT, lenI_tup, ix0, bnd_ret, eqB_str, andD_t, show decide (((([.str a, w, x] : List D).length : Nat) : Int) = 3) = true from rfl]
        show ret (D.bl (a == trW)) = ret (.bl (Option.isSome (if a == trW then some (w, x) else none)))
        cases a == trW <;> rfl
      | _ => rfl
    · simp only [isT, lenI_tup, bnd_ret, andD_t]
      rw [decide_eq_false (by simp only [List.length_cons]; omega), andD_f]
      cases a <;> rfl
  | _ => rfl
end Q42

namespace Q42
open PySem PySem.Spec L2 PL
/-! ### what both count -/
def seqI : D → Option (List D)
  | .lst xs => some xs
  | .tup xs => some xs
  | _ => none
def cnI (rec : D → Option (Int × Int)) (deep : Bool) (item : D) (j : Int × Int) : Option (Int × Int) :=
  if cmdB item = true then some (j.1 + 1, j.2)
  else match tryP item with
    | none => none
    | some (x, y) => if deep = true then none else match rec x, rec y with
      | some a, some b => some (j.1 + a.1 + b.1, j.2 + a.2 + b.2 + 1)
      | _, _ => none
def cnR (rec : D → Option (Int × Int)) (deep : Bool) : List D → Int × Int → Option (Int × Int)
  | [], j => some j
  | x :: xs, j => match cnI rec deep x j with
    | none => none
    | some j' => cnR rec deep xs j'
def cn : Nat → D → Int → Option (Int × Int)
  | 0, _, _ => none
  | n + 1, v, d => match seqI v with
    | none => none
    | some xs => cnR (fun x => cn n x (d + 1)) (decide (2 < d)) xs (0, 0)
theorem cnI_deep (rec rec' : D → Option (Int × Int)) (x : D) (j : Int × Int) : cnI rec true x j = cnI rec' true x j := by
  unfold cnI
  simp
theorem cnR_deep (rec rec' : D → Option (Int × Int)) : ∀ (xs : List D) (j : Int × Int), cnR rec true xs j = cnR rec' true xs j
  | [], _ => rfl
  | x :: xs, j => by
    unfold cnR
    rw [cnI_deep rec rec']
    split
    · rfl
    · exact cnR_deep rec rec' xs _
theorem cn_fuel : ∀ (n m : Nat) (v : D) (d : Int), d ≤ 3 → 3 - d < n → 3 - d < m → cn n v d = cn m v d
  | 0, _, _, _, h1, h2, _ => by omega
  | _ + 1, 0, _, _, h1, _, h3 => by omega
  | n + 1, m + 1, v, d, h1, h2, h3 => by
    unfold cn
    cases seqI v with
    | none => rfl
    | some xs =>
      by_cases h : 2 < d
      · simp only [h, decide_true]
        exact cnR_deep _ _ _ _
      · have e : (fun x => cn n x (d + 1)) = fun x => cn m x (d + 1) := funext fun x => cn_fuel n m x (d + 1) (by omega) (by omega) (by omega)
        simp only [e]
def tupO : Option (Int × Int) → D
  | none => .non
  | some p => .tup [.int p.1, .int p.2]
def lstO : Option (Int × Int) → D
  | none => .non
  | some p => .lst [.int p.1, .int p.2]
theorem tryP_some {v x y : D} (h : tryP v = some (x, y)) : v = .tup [.str trW, x, y] := by
  unfold tryP at h
  split at h
  · split at h
    · rename_i e
      cases h
      rw [eq_of_beq e]
    · cases h
  · cases h
def firstI (k : Nat) : D → D
  | .tup xs => xs.getD k .non
  | _ => .non
theorem sum2 {a b c : Int} (e : a + b = c) : sumW (.lst [.int a, .int b]) = PL.ret c := by
  have h : sumW (.lst [.int a, .int b]) = PL.ret (([a, b] : List Int).sum) := rfl
  rw [h, show ([a, b] : List Int).sum = c by simp [e]]
theorem none_in (a b : Option (Int × Int)) : inDp false .non (.lst [tupO a, tupO b]) = ret (.bl (a.isNone || b.isNone)) := by
  show grd _ _ = _
  rw [grd_pos]
  · cases a <;> cases b <;> rfl
  · refine ⟨rfl, ?_⟩
    cases a <;> cases b <;> simp [okD, SeqAt.shaped, py, pys, tupO, PyData.canLay0, PyData.canLayAll0, PyData.strOk, PyData.depth, PyData.depthAll]
def pbody (n : Nat) (d : Int) (item : D) (j : Int × Int) : W (Step (Int × Int) D) :=
    bnd (bnd (cl (d_is_command item)) fun y => tru y) fun kk => if kk = true then
    ret (.go ((j.1 + 1), j.2))
    else
    bnd (andB (bnd (cl (d_is_try item)) fun y1 => tru y1) (ret (decide (d < 3)))) fun kk => if kk = true then
    bnd (bnd (slD item (some 1) none) fun s => bnd (items s) fun xs1 => mapP (fun block => cl ((m_parts_of n) [.d block, .d (.int (d + 1))])) xs1) fun inner =>
    bnd (bnd (inDp false .non (.lst inner)) fun k3 => blB k3) fun kk => if kk = true then
    ret (.out .non)
    else
    bnd (bnd (mapP (fun part => ixD part (.int 0)) inner) fun xs2 => bnd (sumW (.lst xs2)) fun total => ret (j.1 + total)) fun commands =>
    bnd (bnd (mapP (fun part1 => ixD part1 (.int 1)) inner) fun xs3 => bnd (sumW (.lst xs3)) fun total1 => ret (j.2 + (1 + total1))) fun tries =>
    ret (.go (commands, tries))
    else
    ret (.out .non)
theorem pbody_ok {n : Nat} {d : Int} (IH : d < 3 → ∀ x, m_parts_of n [.d x, .d (.int (d + 1))] = ret (tupO (cn n x (d + 1)))) (x : D) (j : Int × Int) : pbody n d x j = match cnI (fun x => cn n x (d + 1)) (decide (2 < d)) x j with
    | none => PL.ret (.out .non)
    | some j' => PL.ret (.go j') := by
    unfold pbody
    rw [is_command_eq, cl_ret, bnd_ret, tru_bl, bnd_ret]
    unfold cnI
    cases hc : cmdB x with
    | true =>
      rw [if_pos rfl, if_pos rfl]
    | false =>
      rw [if_neg (by decide), if_neg (by decide), is_try_eq, cl_ret, bnd_ret, tru_bl, andB_ret, bnd_ret]
      cases ht : tryP x with
      | none => rfl
      | some p =>
        obtain ⟨a, b⟩ := p
        by_cases hd : d < 3
        · have hd2 : ¬ 2 < d := by omega
          simp only [hd, hd2, decide_true, decide_false, Option.isSome_some, Bool.and_self, if_true, Bool.false_eq_true, if_false]
          rw [tryP_some ht]
          have e1 : slD (.tup [.str trW, a, b]) (some 1) none = ret (.tup [a, b]) := by
            rw [slD_tup, show (1 : Int) = ((1 : Nat) : Int) from rfl, cut_drop]
            rfl
          rw [e1, bnd_ret, items_tup, bnd_ret, mapP_ret (g := fun z => tupO (cn n z (d + 1))) (Nat.le_of_ble_eq_true rfl) (fun z _ => by rw [IH hd z, cl_ret]), bnd_ret]
          show bnd (bnd (inDp false .non (.lst [tupO (cn n a (d + 1)), tupO (cn n b (d + 1))])) _) _ = _
          rw [none_in, bnd_ret, blB_bl, bnd_ret]
          cases ha : cn n a (d + 1) with
          | none => rfl
          | some p1 =>
            cases hb : cn n b (d + 1) with
            | none => rfl
            | some p2 =>
              rw [if_neg (show ¬ ((some p1).isNone || (some p2).isNone) = true from Bool.false_ne_true), mapP_ret (g := firstI 0) (Nat.le_of_ble_eq_true rfl) (fun z hz => by
                simp only [List.map_cons, List.map_nil, List.mem_cons, List.not_mem_nil, or_false, ha, hb] at hz
                rcases hz with rfl | rfl <;> exact ix0 _ _)]
              rw [bnd_ret]
              show bnd (bnd (sumW (.lst [firstI 0 (tupO (cn n a (d + 1))), firstI 0 (tupO (cn n b (d + 1)))])) _) _ = _
              rw [ha, hb]
              show bnd (bnd (sumW (.lst [.int p1.1, .int p2.1])) _) _ = _
              rw [sum2 rfl, bnd_ret, bnd_ret, mapP_ret (g := firstI 1) (Nat.le_of_ble_eq_true rfl) (fun z hz => by
                simp only [List.map_cons, List.map_nil, List.mem_cons, List.not_mem_nil, or_false, ha, hb] at hz
                rcases hz with rfl | rfl <;> exact ix1 _ _ _)]
              rw [bnd_ret]
              show bnd (bnd (sumW (.lst [firstI 1 (tupO (cn n a (d + 1))), firstI 1 (tupO (cn n b (d + 1)))])) _) _ = _
              rw [ha, hb]
              show bnd (bnd (sumW (.lst [.int p1.2, .int p2.2])) _) _ = _
              rw [sum2 rfl, bnd_ret, bnd_ret, show j.1 + (p1.1 + p2.1) = j.1 + p1.1 + p2.1 by omega, show j.2 + (1 + (p1.2 + p2.2)) = j.2 + p1.2 + p2.2 + 1 by omega]
        · have hd2 : 2 < d := by omega
          simp only [hd, hd2, decide_true, decide_false, Bool.and_false, Bool.false_eq_true, if_false, if_true]
theorem parts_run {n : Nat} {d : Int} (IH : d < 3 → ∀ x, m_parts_of n [.d x, .d (.int (d + 1))] = ret (tupO (cn n x (d + 1)))) : ∀ (xs : List D) (j : Int × Int), forT (pbody n d) (fun j1 => ret (.tup [(.int j1.1), (.int j1.2)])) xs j = ret (tupO (cnR (fun x => cn n x (d + 1)) (decide (2 < d)) xs j))
  | [], j => rfl
  | x :: xs, j => by
    unfold forT cnR
    rw [pbody_ok IH x j]
    cases cnI (fun x => cn n x (d + 1)) (decide (2 < d)) x j with
    | none => rfl
    | some j' => exact parts_run IH xs j'
theorem parts_ok : ∀ (n : Nat) (v : D) (d : Int), d ≤ 3 → 3 - d < n → m_parts_of n [.d v, .d (.int d)] = ret (tupO (cn n v d))
  | 0, _, _, _, _ => by omega
  | n + 1, v, d, h1, h2 => by
    show d_parts_of (m_parts_of n) v d = _
    unfold d_parts_of cn
    have IH : d < 3 → ∀ x, m_parts_of n [.d x, .d (.int (d + 1))] = ret (tupO (cn n x (d + 1))) := fun h x => parts_ok n x (d + 1) (by omega) (by omega)
    cases v with
    | lst xs =>
      rw [if_neg (show ¬ (!isA [.tup, .lst] (.lst xs)) = true from Bool.false_ne_true), items_lst, bnd_ret]
      exact parts_run IH xs (0, 0)
    | tup xs =>
      rw [if_neg (show ¬ (!isA [.tup, .lst] (.tup xs)) = true from Bool.false_ne_true), items_tup, bnd_ret]
      exact parts_run IH xs (0, 0)
    | _ => rfl
/-! ### the law's own count -/
theorem ad (a b : Int) : addD (.int a) (.int b) = PL.ret (.int (a + b)) := rfl
theorem iL0 (x : D) (xs : List D) : ixD (.lst (x :: xs)) (.int 0) = PL.ret x := ix_l (atI_nat (j := 0) rfl)
theorem iL1 (a x : D) (xs : List D) : ixD (.lst (a :: x :: xs)) (.int 1) = PL.ret x := ix_l (atI_nat (j := 1) rfl)
theorem iI (i : Int) : intI (.int i) = PL.ret i := rfl
def cbody (n : Nat) (d : Int) (item : D) (j : List D) : W (Step (List D) D) :=
    bnd (bnd (cl (d_l_is_command item)) fun y => tru y) fun kk => if kk = true then
    bnd (bnd (ixD (.lst j) (.int 0)) fun y1 => bnd (intI y1) fun i => bnd (ixD (.lst j) (.int 1)) fun y2 => ret [(.int (i + 1)), y2]) fun total =>
    ret (.go total)
    else
    bnd (orB (ret (!(isT .tup item))) (orB (bnd (lenI item) fun n => ret (!decide (n = 3))) (bnd (ixD item (.int 0)) fun y3 => ret (!(isT .str y3))))) fun kk => if kk = true then
    ret (.out .non)
    else
    bnd (bnd (ixD item (.int 0)) fun y4 => neB y4 (.str (Str.ofString "try"))) fun kk => if kk = true then
    ret (.out .non)
    else
    bnd (bnd (ixD item (.int 1)) fun y5 => bnd (cl ((m_l_counted n) [.d y5, .d (.int (d + 1))])) fun y6 => bnd (ixD item (.int 2)) fun y7 => bnd (cl ((m_l_counted n) [.d y7, .d (.int (d + 1))])) fun y8 => ret (y6, y8)) fun p =>
    bnd (orB (ret (isNone p.1)) (orB (ret (isNone p.2)) (ret (decide (2 < d))))) fun kk => if kk = true then
    ret (.out .non)
    else
    bnd (bnd (ixD (.lst j) (.int 0)) fun y9 => bnd (ixD p.1 (.int 0)) fun y10 => bnd (addD y9 y10) fun c => bnd (ixD p.2 (.int 0)) fun y11 => bnd (addD c y11) fun c1 => bnd (ixD (.lst j) (.int 1)) fun y12 => bnd (ixD p.1 (.int 1)) fun y13 => bnd (addD y12 y13) fun c2 => bnd (ixD p.2 (.int 1)) fun y14 => bnd (addD c2 y14) fun c3 => bnd (intI c3) fun i1 => ret [c1, (.int (i1 + 1))]) fun total1 =>
    ret (.go total1)
theorem cbody_ok {n : Nat} {d : Int} (x : D) (j : Int × Int) (IH : ∀ a b, tryP x = some (a, b) → m_l_counted n [.d a, .d (.int (d + 1))] = ret (lstO (cn n a (d + 1))) ∧ m_l_counted n [.d b, .d (.int (d + 1))] = ret (lstO (cn n b (d + 1)))) : cbody n d x [.int j.1, .int j.2] = match cnI (fun x => cn n x (d + 1)) (decide (2 < d)) x j with
    | none => PL.ret (.out .non)
    | some j' => PL.ret (.go [.int j'.1, .int j'.2]) := by
  unfold cbody
  rw [l_is_command_eq, cl_ret, bnd_ret, tru_bl, bnd_ret]
  unfold cnI
  cases hc : cmdB x with
  | true =>
    rw [if_pos rfl, if_pos rfl, iL0, bnd_ret, iI, bnd_ret, iL1, bnd_ret]
    rfl
  | false =>
    rw [if_neg (by decide), if_neg (by decide)]
    cases ht : tryP x with
    | none =>
      cases x with
      | tup zs =>
        rcases zs with _ | ⟨a, _ | ⟨w, _ | ⟨z, _ | ⟨y, r⟩⟩⟩⟩
        · rfl
        · cases a <;> rfl
        · cases a <;> rfl
        · cases a with
          | str a =>
            have h2 : (a == trW) = false := by
              unfold tryP at ht
              split at ht
              · rename_i e
                cases e
                split at ht
                · cases ht
                · rename_i z
                  exact Bool.eq_false_iff.mpr z
              · rename_i z
                exact absurd rfl (z _ _ _)
            simp only [isT, lenI_tup, ix0, bnd_ret, neB_str, orB_ret, Bool.not_true, Bool.false_or]
            rw [show (!decide (((([.str a, w, z] : List D).length : Nat) : Int) = 3)) = false from rfl, if_neg (by decide), show Str.ofString "try" = trW from rfl, h2]
            rfl
          | _ => rfl
        · simp only [isT, lenI_tup, bnd_ret, orB_f, Bool.not_true]
          rw [decide_eq_false (by simp only [List.length_cons]; omega), Bool.not_false, orB_t]
          rfl
      | _ => rfl
    | some p =>
      obtain ⟨a, b⟩ := p
      obtain ⟨i1, i2⟩ := IH a b ht
      rw [tryP_some ht]
      simp only [isT, lenI_tup, ix0, ix1, ix2, bnd_ret, neB_str, orB_ret, Bool.not_true, Bool.false_or, i1, i2, cl_ret, show Str.ofString "try" = trW from rfl, beq_self_eq_true, Bool.false_eq_true, if_false, show (!decide (((([.str trW, a, b] : List D).length : Nat) : Int) = 3)) = false from rfl]
      cases ha : cn n a (d + 1) with
      | none =>
        by_cases hd : 2 < d
        · simp only [hd, decide_true, ha]; rfl
        · simp only [hd, decide_false, ha]; rfl
      | some p1 =>
        cases hb : cn n b (d + 1) with
        | none =>
          by_cases hd : 2 < d
          · simp only [hd, decide_true, ha, hb]; rfl
          · simp only [hd, decide_false, ha, hb]; rfl
        | some p2 =>
          by_cases hd : 2 < d
          · simp only [hd, decide_true, lstO, isNone, Bool.or_true, if_true, ha, hb]
          · simp only [hd, decide_false, lstO, isNone, Bool.or_false, Bool.false_eq_true, if_false, iL0, iL1, bnd_ret, ad, iI, ha, hb]
theorem counted_run {n : Nat} {d : Int} : ∀ (xs : List D) (j : Int × Int), (∀ v ∈ xs, ∀ x y, tryP v = some (x, y) → m_l_counted n [.d x, .d (.int (d + 1))] = ret (lstO (cn n x (d + 1))) ∧ m_l_counted n [.d y, .d (.int (d + 1))] = ret (lstO (cn n y (d + 1)))) → forT (cbody n d) (fun j1 => ret (.lst j1)) xs [.int j.1, .int j.2] = ret (lstO (cnR (fun x => cn n x (d + 1)) (decide (2 < d)) xs j))
  | [], j, _ => rfl
  | x :: xs, j, IH => by
    have next := fun j' => counted_run xs j' fun v hv => IH v (List.mem_cons_of_mem _ hv)
    unfold forT cnR
    rw [cbody_ok x j (IH x List.mem_cons_self)]
    cases cnI (fun x => cn n x (d + 1)) (decide (2 < d)) x j with
    | none => rfl
    | some j' => exact next j'
theorem depth_in {xs : List D} {v : D} {k : Nat} (h : v ∈ xs) (hk : PyData.depthAll (pys xs) ≤ k) : (py v).depth ≤ k := depths_le.mp hk v h
theorem try_depth {v x y : D} {k : Nat} (h : tryP v = some (x, y)) (hk : (py v).depth ≤ k + 1) : (py x).depth ≤ k ∧ (py y).depth ≤ k := by
  rw [tryP_some h] at hk
  simp only [py, PyData.depth] at hk
  have := depths_le.mp (show PyData.depthAll (pys [.str trW, x, y]) ≤ k by omega)
  exact ⟨this x (by simp), this y (by simp)⟩
theorem counted_ok : ∀ (n : Nat) (v : D) (d : Int), (py v).depth < 2 * n → m_l_counted n [.d v, .d (.int d)] = ret (lstO (cn n v d))
  | 0, _, _, h => by omega
  | n + 1, v, d, h => by
    show d_l_counted (m_l_counted n) v d = _
    unfold d_l_counted cn
    have IH : ∀ xs, PyData.depthAll (pys xs) ≤ 2 * n → ∀ w ∈ xs, ∀ x y, tryP w = some (x, y) → m_l_counted n [.d x, .d (.int (d + 1))] = ret (lstO (cn n x (d + 1))) ∧ m_l_counted n [.d y, .d (.int (d + 1))] = ret (lstO (cn n y (d + 1))) := by
      intro xs hx w hw x y ht
      have h1 := depth_in hw hx
      have hn : 0 < n := by
        have e := tryP_some ht
        rw [e] at h1
        simp only [py, PyData.depth] at h1
        omega
      obtain ⟨h2, h3⟩ := try_depth (k := 2 * n - 1) ht (by omega)
      exact ⟨counted_ok n x (d + 1) (by omega), counted_ok n y (d + 1) (by omega)⟩
    cases v with
    | lst xs =>
      rw [if_neg (show ¬ (!isA [.lst, .tup] (.lst xs)) = true from Bool.false_ne_true), items_lst, bnd_ret]
      simp only [py, PyData.depth] at h
      exact counted_run xs (0, 0) (IH xs (by omega))
    | tup xs =>
      rw [if_neg (show ¬ (!isA [.lst, .tup] (.tup xs)) = true from Bool.false_ne_true), items_tup, bnd_ret]
      simp only [py, PyData.depth] at h
      exact counted_run xs (0, 0) (IH xs (by omega))
    | _ => rfl
def okB : Option (Int × Int) → Bool
  | none => false
  | some p => decide (p.1 ≤ 20) && decide (p.2 ≤ 4)
theorem is_program_ok (v : D) : d_is_program v = ret (.bl (okB (cn 6 v 0))) := by
  unfold d_is_program
  rw [k_parts_of_eq, parts_ok 6 v 0 (by decide) (by decide), cl_ret, bnd_ret]
  cases cn 6 v 0 with
  | none => rfl
  | some p =>
    simp only [tupO, ix0, ix1, bnd_ret, iI, andD_bl, isNone, Bool.not_false, Bool.true_and, okB]
theorem due_ok (v : D) (h : (py v).depth < 18) : d_l_due v = ret (.bl (okB (cn 6 v 0))) := by
  unfold d_l_due
  rw [k_l_counted_eq, counted_ok 9 v 0 h, cl_ret, bnd_ret, cn_fuel 9 6 v 0 (by decide) (by decide) (by decide)]
  cases cn 6 v 0 with
  | none => rfl
  | some p =>
    simp only [lstO, iL0, iL1, bnd_ret, iI, andD_bl, isNone, Bool.not_false, Bool.true_and, okB]
    rw [show decide (p.1 < 21) = decide (p.1 ≤ 20) from decide_eq_decide.mpr (by omega), show decide (p.2 < 5) = decide (p.2 ≤ 4) from decide_eq_decide.mpr (by omega)]
end Q42

namespace Q42
open PySem PySem.Spec L2 PL
/-! ### the deck's words, values, stores -/
theorem pick_eq (xs : List D) : d_l_pick (.lst xs) = bnd (drw xs.length) fun r => ixD (.lst xs) (.int r) := by
  unfold d_l_pick
  rfl
theorem pick_gen {xs : List D} {Q : D → Prop} (h0 : 0 < xs.length) (h1 : xs.length < 1000) (hq : ∀ x ∈ xs, Q x) : Gen (d_l_pick (.lst xs)) 1 Q := by
  rw [pick_eq]
  refine Gen.dr (c := 0) (by omega) (by omega) fun r h2 h3 => Gen.pickL0 h2 h3 hq
theorem pick_abc : Gen (d_l_pick (.str (Str.ofString "abcdefghijklmnopqrstuvwxyz"))) 1 (fun y => ∃ k, y = .str ⟨#[k]⟩ ∧ lower k = true) := by
  unfold d_l_pick
  refine Gen.dr (c := 0) (by decide +kernel) (by decide +kernel) fun r h2 h3 => ?_
  have h4 : r < 26 := by
    have e : (Str.ofString "abcdefghijklmnopqrstuvwxyz").length = 26 := by decide +kernel
    rw [e] at h3
    exact h3
  rw [abc_ix h2 h4]
  exact Gen.ret ⟨_, rfl, letter_low h2 h4⟩
def labS (way b : Int) (stem : List Nat) (k : Int) : List Nat :=
  if way = 0 then [97 + ((b + 7 * k) % 26).toNat] else if way = 1 then stem ++ [97 + ((b + 7 * k) % 26).toNat] else (97 + ((b + 7 * k) % 26).toNat) :: stem.take (k % 8).toNat
theorem lab_turn {p : Int × Int} {stem : List Nat} (hs : stem.length = 7) (h0 : 0 ≤ p.1) (h1 : p.1 < 3) {k1 : Int} (hk : 0 ≤ k1) (hk2 : k1 < 100) (j1 : List D) : (bnd (bnd (mulI 7 k1) fun i => bnd (modI (p.2 + i) 26) fun i1 => ixD (.str (Str.ofString "abcdefghijklmnopqrstuvwxyz")) (.int i1)) fun sign =>
    bnd (bnd (addD (.str (strL stem)) sign) fun c => bnd (modI k1 8) fun i2 => bnd (slD (.str (strL stem)) none (some i2)) fun s => bnd (addD sign s) fun c1 => ixD (.lst [sign, c, c1]) (.int p.1)) fun a => roomL j1 (
    ret (.go (j1 ++ [a]))) : W (Step (List D) D)) = roomL j1 (ret (.go (j1 ++ [.str (strL (labS p.1 p.2 stem k1))]))) := by
  have m1 : 0 ≤ (p.2 + 7 * k1) % 26 := Int.emod_nonneg _ (by decide)
  have m2 : (p.2 + 7 * k1) % 26 < 26 := Int.emod_lt_of_pos _ (by decide)
  have m3 : 0 ≤ k1 % 8 := Int.emod_nonneg _ (by decide)
  obtain ⟨n8, e8⟩ := Int.eq_ofNat_of_zero_le m3
  rw [mulI_ok (by omega), bnd_ret]
  unfold modI
  rw [grd_pos (by decide), grd_pos (by decide), bnd_ret, abc_ix m1 m2, bnd_ret, chS_strL, addD_strL (by rw [hs]; simp), bnd_ret, bnd_ret, e8]
  have eS : slD (.str (strL stem)) none (some (n8 : Int)) = ret (.str (strL (stem.take n8))) := by
    show ret (D.str (cutS (strL stem) none (some (n8 : Int)))) = _
    rw [cutS_take]
  rw [eS, bnd_ret, addD_strL (by have := List.length_take_le n8 stem; simp only [List.length_singleton]; omega), bnd_ret]
  have hp : p.1 = 0 ∨ p.1 = 1 ∨ p.1 = 2 := by omega
  have e9 : (k1 % 8).toNat = n8 := by rw [e8]; rfl
  unfold labS
  rcases hp with h | h | h <;> rw [h]
  · rw [if_pos rfl]; rfl
  · rw [if_neg (by decide), if_pos rfl]; rfl
  · rw [if_neg (by decide), if_neg (by decide), e9]; rfl
theorem labS_word {way b : Int} {stem : List Nat} (hs : stem.length = 7) (hl : ∀ k ∈ stem, lower k = true) (k : Int) : wordB (.str (strL (labS way b stem k))) = true := by
  have m1 : 0 ≤ (b + 7 * k) % 26 := Int.emod_nonneg _ (by decide)
  have m2 : (b + 7 * k) % 26 < 26 := Int.emod_lt_of_pos _ (by decide)
  have low := letter_low m1 m2
  unfold labS
  split
  · exact wordB_strL _ (by simp) (by simp) fun x hx => by rw [List.mem_singleton.mp hx]; exact low
  · split
    · refine wordB_strL _ (by simp) (by simp [hs]) fun x hx => ?_
      rcases List.mem_append.mp hx with h | h
      · exact hl x h
      · rw [List.mem_singleton.mp h]; exact low
    · refine wordB_strL _ (by simp) ?_ fun x hx => ?_
      · have := List.length_take_le (k % 8).toNat stem
        simp only [List.length_cons]
        omega
      · rcases List.mem_cons.mp hx with h | h
        · rw [h]; exact low
        · exact hl x (List.mem_of_mem_take h)
theorem labS_inj {way b : Int} {stem : List Nat} {k k' : Int} (h : labS way b stem k = labS way b stem k') : (b + 7 * k) % 26 = (b + 7 * k') % 26 := by
  have m1 : 0 ≤ (b + 7 * k) % 26 := Int.emod_nonneg _ (by decide)
  have m2 : 0 ≤ (b + 7 * k') % 26 := Int.emod_nonneg _ (by decide)
  have key : 97 + ((b + 7 * k) % 26).toNat = 97 + ((b + 7 * k') % 26).toNat → (b + 7 * k) % 26 = (b + 7 * k') % 26 := fun e => by omega
  unfold labS at h
  split at h
  · exact key (List.cons.inj h).1
  · split at h
    · exact key (List.cons.inj (List.append_inj_right h rfl)).1
    · exact key (List.cons.inj h).1
/-- different words -/
def Lb (n : Int) (d : D) : Prop := ∃ ss : List Str, d = .lst (ss.map .str) ∧ (ss.length : Int) = n ∧ ss.Nodup ∧ ∀ s ∈ ss, wordB (.str s) = true
theorem labels_gen {n : Int} (h1 : 1 ≤ n) (h2 : n ≤ 8) : Gen (d_l_labels n) 9 (Lb n) := by
  unfold d_l_labels
  simp only [bnd_bnd]
  refine (Gen.dr (c := 8) (by decide) (by decide) fun r q0 q1 => ?_).up (by decide)
  refine (Gen.dr (c := 7) (by decide) (by decide) fun b q2 q3 => ?_).up (by decide)
  rw [bnd_ret, rngK_eq, rngI_ret (by decide), bnd_ret]
  refine (Gen.bind (c := 7) (d := 0) ((Gen.map (c := 1) (xs := rngZ 0 (7 : Int).toNat) 7 (by rw [rngZ_len]; decide) fun x _ => pick_abc)) fun ys hys => ?_).up (by decide)
  obtain ⟨ks, rfl, e, hp⟩ := signs_ok hys.2
  have hl := hys.1
  rw [List.length_map, rngZ_len] at hl
  have hl : ks.length = 7 := hl
  rw [joinD_signs ks (by omega), bnd_ret, rngI_ret (by omega), bnd_ret]
  rw [app_run (lab := fun k => .str (strL (labS r b ks k))) (fun x hx j => ?_) (by rw [rngZ_len]; simp; omega)]
  · refine Gen.ret ⟨(rngZ 0 n.toNat).map fun k => strL (labS r b ks k), ?_, ?_, ?_, fun s hs => ?_⟩
    · rw [List.map_map]; rfl
    · rw [List.length_map, rngZ_len]; omega
    · unfold rngZ
      rw [List.map_map]
      refine List.pairwise_map.mpr ((List.nodup_range (n := n.toNat)).imp_of_mem fun {i j} hi hj hne e => hne ?_)
      have hi := List.mem_range.mp hi
      have hj := List.mem_range.mp hj
      have : (b + 7 * (0 + (i : Int))) % 26 = (b + 7 * (0 + (j : Int))) % 26 := labS_inj (strL_inj e)
      have h7 : (7 * ((i : Int) - j)) % 26 = 0 := by omega
      have hd : (i : Int) - j = -7 ∨ (i : Int) - j = -6 ∨ (i : Int) - j = -5 ∨ (i : Int) - j = -4 ∨ (i : Int) - j = -3 ∨ (i : Int) - j = -2 ∨ (i : Int) - j = -1 ∨ (i : Int) - j = 0 ∨ (i : Int) - j = 1 ∨ (i : Int) - j = 2 ∨ (i : Int) - j = 3 ∨ (i : Int) - j = 4 ∨ (i : Int) - j = 5 ∨ (i : Int) - j = 6 ∨ (i : Int) - j = 7 := by omega
      rcases hd with h | h | h | h | h | h | h | h | h | h | h | h | h | h | h <;> rw [h] at h7 <;> first | (exfalso; revert h7; decide) | omega
    · obtain ⟨k, _, rfl⟩ := List.mem_map.mp hs
      exact labS_word hl hp k
  · have := rngZ_mem hx
    have := lab_turn (p := (r, b)) hl q0 q1 (k1 := x) (by omega) (by omega) j
    simp only [bnd_bnd] at this
    exact this
theorem entry_gen : Gen d_l_entry 2 (fun d => numB d = true) := by
  unfold d_l_entry
  refine Gen.dr (c := 1) (by decide) (by decide) fun r h0 h1 => ?_
  refine Gen.dr (c := 0) (by decide) (by decide) fun q h2 h3 => Gen.pickL0 h2 (by simpa using h3) fun y hy => ?_
  simp only [List.mem_cons, List.not_mem_nil, or_false] at hy
  rcases hy with rfl | rfl | rfl | rfl | rfl | rfl <;> simp only [numB, Bool.and_eq_true, decide_eq_true_eq] <;> omega
structure Kn (K N : List Str) : Prop where
  kw : ∀ s ∈ K, wordB (.str s) = true
  nw : ∀ s ∈ N, wordB (.str s) = true
  kn : K.Nodup
  kl : K.length ≤ 8
  nl : N.length ≤ 8
  k0 : 0 < K.length
  n0 : 0 < N.length
theorem pickS_gen {K : List Str} (h0 : 0 < K.length) (h1 : K.length ≤ 8) : Gen (d_l_pick (.lst (K.map .str))) 1 (fun d => ∃ s ∈ K, d = .str s) :=
  pick_gen (by rw [List.length_map]; exact h0) (by rw [List.length_map]; omega) fun x hx => by
    obtain ⟨s, hs, rfl⟩ := List.mem_map.mp hx
    exact ⟨s, hs, rfl⟩
/-- commands -/
inductive Cm (K N : List Str) : D → Prop
  | set {s : Str} {x : D} (h : s ∈ K) (hx : numB x = true) : Cm K N (.tup [.str (Str.ofString "set"), .str s, x])
  | del {s : Str} (h : s ∈ K) : Cm K N (.tup [.str (Str.ofString "del"), .str s])
  | mark {s : Str} (h : s ∈ N) : Cm K N (.tup [.str (Str.ofString "mark"), .str s])
  | back {s : Str} (h : s ∈ N) : Cm K N (.tup [.str (Str.ofString "back"), .str s])
  | keep {s : Str} (h : s ∈ N) : Cm K N (.tup [.str (Str.ofString "keep"), .str s])
theorem command_gen {K N : List Str} (h : Kn K N) : Gen (d_l_command (.lst (K.map .str)) (.lst (N.map .str))) 4 (Cm K N) := by
  unfold d_l_command
  refine (Gen.dr (c := 3) (by decide) (by decide) fun way q0 q1 => ?_).up (by decide)
  refine (Gen.cond (c := 3) (d := 3) (fun _ => ?_) fun hw => ?_).up (by decide)
  · refine (Gen.bind (c := 1) (d := 2) (pickS_gen h.k0 h.kl) fun y ⟨t, ht, e⟩ => ?_).up (by decide)
    subst e
    refine (Gen.bind (c := 2) (d := 0) entry_gen fun y hy => ?_).up (by decide)
    exact Gen.ret (.set ht hy)
  · refine (Gen.cond (c := 1) (d := 1) (fun _ => ?_) fun hw2 => ?_).up (by decide)
    · refine (Gen.bind (c := 1) (d := 0) (pickS_gen h.k0 h.kl) fun y ⟨t, ht, e⟩ => ?_).up (by decide)
      subst e
      exact Gen.ret (.del ht)
    · have hw := of_decide_eq_false hw
      have hw2 := of_decide_eq_false hw2
      refine Gen.pickL (by omega) (by simp; omega) fun y hy => ?_
      refine (Gen.bind (c := 1) (d := 0) (pickS_gen h.n0 h.nl) fun y ⟨t, ht, e⟩ => ?_).up (by decide)
      subst e
      simp only [List.mem_cons, List.not_mem_nil, or_false] at hy
      rcases hy with rfl | rfl | rfl | rfl | rfl
      · exact Gen.ret (.mark ht)
      · exact Gen.ret (.mark ht)
      · exact Gen.ret (.back ht)
      · exact Gen.ret (.back ht)
      · exact Gen.ret (.keep ht)
/-! ### programs drawn -/
def Seq4 (R : D → Prop) (b : D) : Prop := ∃ xs, (b = .lst xs ∨ b = .tup xs) ∧ xs.length ≤ 4 ∧ ∀ x ∈ xs, R x
def Itm (K N : List Str) : Nat → D → Prop
  | 0, x => Cm K N x
  | k + 1, x => Cm K N x ∨ ∃ b1 b2, x = .tup [.str trW, b1, b2] ∧ Seq4 (Itm K N k) b1 ∧ Seq4 (Itm K N k) b2
def drawsB : Nat → Nat
  | 0 => 50
  | k + 1 => 50 + 8 * drawsB k
theorem Itm.cm {K N : List Str} {k : Nat} {x : D} (h : Cm K N x) : Itm K N k x := by
  cases k with
  | zero => exact h
  | succ k => exact .inl h
theorem pair_gen {xs : List D} {Q : D → Prop} (h1 : Q (.tup xs)) (h2 : Q (.lst xs)) : Gen (bnd (drw 2) fun r2 => ixD (.lst [(.tup xs), (.lst xs)]) (.int r2)) 1 Q := by
  refine Gen.dr (c := 0) (by decide) (by decide) fun r a b => Gen.pickL0 a (by simp; omega) fun y hy => ?_
  simp only [List.mem_cons, List.not_mem_nil, or_false] at hy
  rcases hy with rfl | rfl
  · exact h1
  · exact h2
def GoB (K : List Str) (k i : Nat) (o : PL.Step (List D) D) : Prop := ∃ j', o = .go j' ∧ (j'.length ≤ i + 1 ∧ ∀ x ∈ j', Itm K K k x)
theorem block_gen {K : List Str} (h : Kn K K) (a : Addr) : ∀ (n k : Nat) (d : Int), d = 3 - k → k < n → GenM (Two a) (m_l_block n [.pen, .d (.lst (K.map .str)), .d (.lst (K.map .str)), .o a, .d (.int d)]) (drawsB k) (Seq4 (Itm K K k))
  | 0, _, _, _, h2 => by omega
  | n + 1, k, d, hd, h2 => by
    show GenM (Two a) (d_l_block (m_l_block n) (.lst (K.map .str)) (.lst (K.map .str)) a d) _ _
    unfold d_l_block
    simp only [bnd_bnd]
    have hs : 50 ≤ drawsB k := by cases k <;> simp only [drawsB] <;> omega
    refine (GenM.dr (c := drawsB k - 1) (by decide) (by decide) fun r q0 q1 => ?_).up (by omega)
    rw [rngI_ret (by omega), bnd_ret]
    refine (GenM.forI (c := (drawsB k - 10) / 4) (d := 1) (N := 4) (i := 0) (I := fun i j => j.length ≤ i ∧ ∀ x ∈ j, Itm K K k x) (by rw [rngZ_len]; omega) (fun x _ i j hi ⟨j1, j2⟩ => ?_) (fun i j hi ⟨j1, j2⟩ => ?_) ⟨Nat.zero_le _, fun x q => absurd q List.not_mem_nil⟩).up (by
      rw [rngZ_len]
      have h4 : r.toNat ≤ 4 := by omega
      have := Nat.mul_le_mul_left ((drawsB k - 10) / 4) h4
      omega)
    · have add : ∀ y, Itm K K k y → GenM (Two a) (roomL j (ret (.go (j ++ [y]))) : W (PL.Step (List D) D)) 0 (GoB K k i) := fun y hy =>
        GenM.room (by omega) (GenM.ret ⟨_, rfl, by rw [List.length_append]; simp; omega, fun x hx => (List.mem_append.mp hx).elim (j2 x) fun q => by rw [List.mem_singleton.mp q]; exact hy⟩)
      have two := two_ix (a := a) 1 (by decide)
      have one := two_ix (a := a) 0 (by decide)
      have tail : GenM (Two a) (bnd (ixOb a (.int 0)) fun y4 => bnd (intI y4) fun i2 => bnd (ret (decide (0 < i2))) fun kk => if kk = true then
          bnd (ixOb a (.int 0)) fun y5 => bnd (intI y5) fun i3 => bnd (stOb a (.int 0) (.int (i3 - 1))) fun _ =>
          bnd (d_l_command (.lst (K.map .str)) (.lst (K.map .str))) fun a1 => roomL j (ret (.go (j ++ [a1])))
          else ret (.go j)) 4 (GoB K k i) := by
        refine (GenM.bind (d := 4) one fun y4 ⟨z, e⟩ => ?_).up (by decide)
        subst e
        rw [iI, bnd_ret, bnd_ret]
        refine (GenM.cond (c := 4) (d := 0) (fun _ => ?_) fun _ => GenM.ret ⟨j, rfl, by omega, j2⟩).up (by decide)
        refine (GenM.bind (d := 4) one fun y5 ⟨z5, e⟩ => ?_).up (by decide)
        subst e
        rw [iI, bnd_ret]
        refine (GenM.bind (d := 4) (two_st 0 (by decide) _) fun _ _ => ?_).up (by decide)
        refine (GenM.bind (d := 0) (command_gen h).m fun a1 ha => ?_).up (by decide)
        exact add a1 (.cm ha)
      cases k with
      | zero =>
        have e : decide (d < 3) = false := by rw [decide_eq_false_iff_not]; omega
        rw [e, andB_f, bnd_ret, if_neg (by decide)]
        exact tail.up (by simp only [drawsB]; omega)
      | succ k =>
        have e : decide (d < 3) = true := by rw [decide_eq_true_iff]; omega
        have ih := block_gen h a n k (d + 1) (by omega) (by omega)
        rw [e, andB_t]
        have tst : GenM (Two a) (andB (bnd (ixOb a (.int 1)) fun y => bnd (intI y) fun i => ret (decide (0 < i))) (bnd (drw 3) fun r1 => ret (decide (r1 = 0)))) 1 (fun _ => True) := by
          unfold andB
          simp only [bnd_bnd]
          refine (GenM.bind (d := 1) two fun y ⟨z, e⟩ => ?_).up (by decide)
          subst e
          rw [iI, bnd_ret, bnd_ret]
          refine (GenM.cond (c := 1) (d := 0) (fun _ => ?_) fun _ => GenM.ret trivial).up (by decide)
          exact GenM.dr (c := 0) (by decide) (by decide) fun _ _ _ => GenM.ret trivial
        refine (GenM.bind (d := 2 * drawsB k + 4) tst fun kk _ => ?_).up (by simp only [drawsB]; omega)
        refine (GenM.cond (c := 2 * drawsB k + 4) (d := 4) (fun _ => ?_) fun _ => tail).up (Nat.max_le.mpr ⟨Nat.le_refl _, by omega⟩)
        refine (GenM.bind (d := 2 * drawsB k) two fun y1 ⟨z, e⟩ => ?_).up (by omega)
        subst e
        rw [iI, bnd_ret]
        refine (GenM.bind (d := 2 * drawsB k) (two_st 1 (by decide) _) fun _ _ => ?_).up (by omega)
        refine (GenM.bind (d := drawsB k) ih fun b1 h1 => ?_).up (by omega)
        refine (GenM.bind (d := 0) ih fun b2 h2 => ?_).up (by omega)
        rw [bnd_ret]
        exact add _ (.inr ⟨b1, b2, rfl, h1, h2⟩)
    · exact (pair_gen (Q := Seq4 (Itm K K k)) ⟨j, .inr rfl, by omega, j2⟩ ⟨j, .inl rfl, by omega, j2⟩).m
end Q42

namespace Q42
open PySem PySem.Spec L2 PL
theorem Cm.sz {K N : List Str} (h : Kn K N) {x : D} (hx : Cm K N x) : Sz 40 2 x := by
  have w5 : ∀ s : Str, s ∈ [wSet, wDel, wMark, wBack, wKeep] → Sz 8 1 (.str s) := fun s hs => by
    refine Sz.str (word_ok ?_) ?_ <;> (simp only [List.mem_cons, List.not_mem_nil, or_false] at hs; rcases hs with rfl | rfl | rfl | rfl | rfl <;> decide +kernel)
  cases hx with
  | set hs hv =>
    rename_i s x
    have a : Sz 8 1 (.str (Str.ofString "set")) := w5 wSet (by simp)
    have b : Sz 8 1 (.str s) := IsW.ok ⟨s, rfl, h.kw s hs⟩
    have c := (numB_sz _ hv).up (Nat.le_refl 0) (Nat.zero_le 1)
    refine .tup (.cons a.pt (.cons b.pt (.cons c.pt .nil))) ?_
    rw [bulks_cons, bulks_cons, bulks_cons, bulks_nil]
    have := a.2.1
    have := b.2.1
    have := c.2.1
    omega
  | del hs =>
    rename_i s
    have a : Sz 8 1 (.str (Str.ofString "del")) := w5 wDel (by simp)
    have b : Sz 8 1 (.str s) := IsW.ok ⟨s, rfl, h.kw s hs⟩
    refine .tup (.cons a.pt (.cons b.pt .nil)) ?_
    rw [bulks_cons, bulks_cons, bulks_nil]
    have := a.2.1
    have := b.2.1
    omega
  | mark hs =>
    rename_i s
    have a : Sz 8 1 (.str (Str.ofString "mark")) := w5 wMark (by simp)
    have b : Sz 8 1 (.str s) := IsW.ok ⟨s, rfl, h.nw s hs⟩
    refine .tup (.cons a.pt (.cons b.pt .nil)) ?_
    rw [bulks_cons, bulks_cons, bulks_nil]
    have := a.2.1
    have := b.2.1
    omega
  | back hs =>
    rename_i s
    have a : Sz 8 1 (.str (Str.ofString "back")) := w5 wBack (by simp)
    have b : Sz 8 1 (.str s) := IsW.ok ⟨s, rfl, h.nw s hs⟩
    refine .tup (.cons a.pt (.cons b.pt .nil)) ?_
    rw [bulks_cons, bulks_cons, bulks_nil]
    have := a.2.1
    have := b.2.1
    omega
  | keep hs =>
    rename_i s
    have a : Sz 8 1 (.str (Str.ofString "keep")) := w5 wKeep (by simp)
    have b : Sz 8 1 (.str s) := IsW.ok ⟨s, rfl, h.nw s hs⟩
    refine .tup (.cons a.pt (.cons b.pt .nil)) ?_
    rw [bulks_cons, bulks_cons, bulks_nil]
    have := a.2.1
    have := b.2.1
    omega
/-! ### sizes -/
mutual
def szB : D → Bool
  | .non => true
  | .bl _ => true
  | .int i => decide (i.natAbs < 10 ^ 61)
  | .str s => okD (.str s)
  | .lst xs => szBs xs
  | .tup xs => szBs xs
  | .dic [] => true
  | .dic (_ :: _) => false
def szBs : List D → Bool
  | [] => true
  | x :: xs => szB x && szBs xs
end
mutual
theorem szB_ok : ∀ d : D, szB d = true → Ok d
  | .non, _ => .non
  | .bl b, _ => .bl b
  | .int i, h => .int (by unfold szB at h; exact of_decide_eq_true h)
  | .str s, h => .str (by unfold szB at h; exact h)
  | .lst xs, h => .lst (szBs_ok xs (by unfold szB at h; exact h))
  | .tup xs, h => .tup (szBs_ok xs (by unfold szB at h; exact h))
  | .dic [], _ => .dic0
  | .dic (_ :: _), h => by unfold szB at h; cases h
theorem szBs_ok : ∀ xs : List D, szBs xs = true → ∀ x ∈ xs, Ok x
  | [], _ => fun x q => absurd q List.not_mem_nil
  | y :: ys, h => fun x q => by
    unfold szBs at h
    rw [Bool.and_eq_true] at h
    rcases List.mem_cons.mp q with e | q
    · rw [e]; exact szB_ok y h.1
    · exact szBs_ok ys h.2 x q
end
theorem sz_chk {B k : Nat} {d : D} (h : (szB d && (decide ((py d).bulk ≤ B) && decide ((py d).depth ≤ k))) = true) : Sz B k d := by
  rw [Bool.and_eq_true, Bool.and_eq_true] at h
  exact ⟨szB_ok d h.1, of_decide_eq_true h.2.1, of_decide_eq_true h.2.2⟩
mutual
def itB : Nat → Nat
  | 0 => 40
  | k + 1 => 4 + 2 * (4 * (itB k + 1) + 1)
end
def seqB (k : Nat) : Nat := 4 * (itB k + 1)
theorem seq_sz {R : D → Prop} {B k : Nat} (h : ∀ x, R x → Sz B k x) {b : D} (hb : Seq4 R b) : Sz (4 * (B + 1)) (k + 1) b := by
  obtain ⟨xs, e, hl, hx⟩ := hb
  have h2 : bulks xs ≤ 4 * (B + 1) := by
    refine Nat.le_trans (bulks_le fun x q => (h x (hx x q)).2.1) ?_
    have := Nat.mul_le_mul_left (B + 1) hl
    omega
  rcases e with rfl | rfl
  · exact .lst (fun x q => (h x (hx x q)).pt) h2
  · exact .tup (fun x q => (h x (hx x q)).pt) h2
theorem tr_sz : Sz 3 0 (.str trW) := sz_chk (by decide +kernel)
theorem itB_ge : ∀ k, 40 ≤ itB k
  | 0 => Nat.le_refl _
  | k + 1 => by
    have := itB_ge k
    unfold itB
    omega
theorem itm_sz {K : List Str} (h : Kn K K) : ∀ (k : Nat) (x : D), Itm K K k x → Sz (itB k) (2 * k + 2) x
  | 0, x, hx => Cm.sz h hx
  | k + 1, x, hx => by
    rcases hx with hx | ⟨b1, b2, rfl, h1, h2⟩
    · exact (Cm.sz h hx).up (itB_ge _) (by omega)
    · have s1 := seq_sz (itm_sz h k) h1
      have s2 := seq_sz (itm_sz h k) h2
      refine Sz.tup (k := 2 * k + 3) (.cons (tr_sz.up (Nat.le_refl _) (by omega)).pt (.cons s1.pt (.cons s2.pt .nil))) ?_
      rw [bulks_cons, bulks_cons, bulks_cons, bulks_nil]
      have := tr_sz.2.1
      have := s1.2.1
      have := s2.2.1
      unfold itB
      omega
theorem blk_sz {K : List Str} (h : Kn K K) {k : Nat} {b : D} (hb : Seq4 (Itm K K k) b) : Sz (seqB k) (2 * k + 3) b := seq_sz (itm_sz h k) hb
/-! ### programs with one thing changed -/
theorem strange_gen : Gen d_l_strange 1 (Sz 60 4) := by
  unfold d_l_strange
  rw [addL_ok (by decide), bnd_ret, addL_ok (by decide), bnd_ret, addL_ok (by decide), bnd_ret, addL_ok (by decide), bnd_ret]
  refine Gen.dr (c := 0) (by decide) (by decide) fun r a b => Gen.pickL0 a (by simp; omega) ?_
  refine fun y hy => sz_chk ?_
  revert y
  rw [← List.all_eq_true]
  decide +kernel
def Bt (thing d : D) : Prop := Ok d ∧ (py d).bulk ≤ (py thing).bulk + 100 ∧ (py d).depth ≤ (py thing).depth + 4
def triesB (xs : List D) : List Int := (rngZ 0 xs.length).filter fun i => match xs[i.toNat]? with | some (.tup (.str t :: _)) => t == trW | _ => false
theorem cm_head {K N : List Str} {x : D} (h : Cm K N x) : ∃ t r, x = .tup (.str t :: r) ∧ (t == trW) = false := by
  cases h with
  | set _ _ => exact ⟨_, _, rfl, by decide +kernel⟩
  | del _ => exact ⟨_, _, rfl, by decide +kernel⟩
  | mark _ => exact ⟨_, _, rfl, by decide +kernel⟩
  | back _ => exact ⟨_, _, rfl, by decide +kernel⟩
  | keep _ => exact ⟨_, _, rfl, by decide +kernel⟩
theorem itm_head {K N : List Str} {k : Nat} {x : D} (h : Itm K N k x) : ∃ t r, x = .tup (.str t :: r) ∧ ((t == trW) = true → ∃ k' b1 b2, k = k' + 1 ∧ x = .tup [.str trW, b1, b2] ∧ Seq4 (Itm K N k') b1 ∧ Seq4 (Itm K N k') b2) := by
  cases k with
  | zero =>
    obtain ⟨t, r, e, f⟩ := cm_head (show Cm K N x from h)
    exact ⟨t, r, e, fun z => by rw [f] at z; cases z⟩
  | succ k =>
    rcases h with h | ⟨b1, b2, e, h1, h2⟩
    · obtain ⟨t, r, e, f⟩ := cm_head h
      exact ⟨t, r, e, fun z => by rw [f] at z; cases z⟩
    · exact ⟨trW, _, e, fun _ => ⟨k, b1, b2, rfl, e, h1, h2⟩⟩
theorem tries_mem {K N : List Str} {k : Nat} {xs : List D} (hx : ∀ x ∈ xs, Itm K N k x) {i : Int} (h : i ∈ triesB xs) : ∃ (n : Nat) (hn : n < xs.length) (k' : Nat) (b1 b2 : D), i = (n : Int) ∧ k = k' + 1 ∧ xs[n] = .tup [.str trW, b1, b2] ∧ Seq4 (Itm K N k') b1 ∧ Seq4 (Itm K N k') b2 := by
  obtain ⟨h1, h2⟩ := List.mem_filter.mp h
  have hm := rngZ_mem h1
  obtain ⟨n, rfl⟩ := Int.eq_ofNat_of_zero_le hm.1
  have hn : n < xs.length := by omega
  obtain ⟨t, r, e, f⟩ := itm_head (hx xs[n] (List.getElem_mem hn))
  have h2 : (match xs[n]? with | some (.tup (.str t :: _)) => t == trW | _ => false) = true := h2
  rw [List.getElem?_eq_getElem hn, e] at h2
  obtain ⟨k', b1, b2, e1, e2, e3, e4⟩ := f h2
  exact ⟨n, hn, k', b1, b2, rfl, e1, e2, e3, e4⟩
theorem tries_eq {K N : List Str} {k : Nat} {xs : List D} (hx : ∀ x ∈ xs, Itm K N k x) (hl : xs.length ≤ 1000) : selP (fun k => bnd (ixD (.lst xs) (.int k)) fun y => bnd (ixD y (.int 0)) fun y1 => bnd (eqB y1 (.str (Str.ofString "try"))) fun k1 => ret k1) (fun k => ret (.int k)) (rngZ 0 xs.length) = ret ((triesB xs).map .int) := by
  refine selP_ret (by rw [rngZ_len]; omega) (fun i hi => ?_) fun i _ _ => rfl
  have hm := rngZ_mem hi
  obtain ⟨n, rfl⟩ := Int.eq_ofNat_of_zero_le hm.1
  have hn : n < xs.length := by omega
  obtain ⟨t, r, e, _⟩ := itm_head (hx xs[n] (List.getElem_mem hn))
  rw [ixL hn, bnd_ret, e, ix0, bnd_ret, eqB_str, bnd_ret]
  show _ = ret (match xs[n]? with | some (.tup (.str t :: _)) => t == trW | _ => false)
  rw [List.getElem?_eq_getElem hn, e]
  rfl
theorem bulks_set {xs : List D} {n : Nat} (hn : n < xs.length) (y : D) : bulks (xs.set n y) + (py xs[n]).bulk = bulks xs + (py y).bulk := by
  have e := bulks_split hn
  have e2 : xs.set n y = xs.take n ++ y :: xs.drop (n + 1) := by rw [List.set_eq_take_append_cons_drop, if_pos hn]
  rw [e2, bulks_app, bulks_cons]
  omega
theorem bulks_cut (xs : List D) (r s : Nat) : bulks (xs.take r) + bulks (xs.drop (r + s)) ≤ bulks xs := by
  have e : bulks (xs.take r ++ xs.drop r) = bulks xs := by rw [List.take_append_drop]
  rw [bulks_app] at e
  have := bulks_drop (xs.drop r) s
  rw [List.drop_drop] at this
  omega
theorem ixN_n {n j : Nat} (hj : j < n) : ixN n (j : Int) = some j := by
  unfold ixN
  rw [if_pos (by omega), if_pos (by omega)]
  simp
theorem setL_ok {xs : List D} {n : Nat} (hn : n < xs.length) (y : D) : setLW xs (.int n) y = ret (xs.set n y) := by
  show (match ixN xs.length (n : Int) with | some t => PL.ret (xs.set t y) | none => stuck) = _
  rw [ixN_n hn]
/-- lists near another one -/
def Near (xs js : List D) : Prop := Parts (PyData.depthAll (pys xs) + 4) js ∧ bulks js ≤ bulks xs + 100
theorem near_bt {xs js : List D} {thing : D} (e : thing = .lst xs ∨ thing = .tup xs) (h : Near xs js) : Bt thing (.tup js) ∧ Bt thing (.lst js) := by
  have eb : (py thing).bulk = bulks xs := by rcases e with rfl | rfl <;> simp [py, PyData.bulk, bulks]
  have ed : (py thing).depth = PyData.depthAll (pys xs) + 1 := by rcases e with rfl | rfl <;> simp [py, PyData.depth, Nat.add_comm]
  obtain ⟨h1, h2⟩ := h
  have s1 := Sz.tup h1 h2
  have s2 := Sz.lst h1 h2
  exact ⟨⟨s1.1, by rw [eb]; exact s1.2.1, by rw [ed]; exact Nat.le_trans s1.2.2 (by omega)⟩, ⟨s2.1, by rw [eb]; exact s2.2.1, by rw [ed]; exact Nat.le_trans s2.2.2 (by omega)⟩⟩
theorem try_set {K : List Str} (h : Kn K K) {k : Nat} {xs : List D} (hx : ∀ x ∈ xs, Itm K K k x) {n : Nat} (hn : n < xs.length) {b1 b2 c1 c2 : D} (e : xs[n] = .tup [.str trW, b1, b2]) (hc : (Bt b1 c1 ∧ c2 = b2) ∨ (c1 = b1 ∧ Bt b2 c2)) : Near xs (xs.set n (.tup [.str trW, c1, c2])) := by
  have hp : Parts (PyData.depthAll (pys xs)) xs := fun x q => ⟨(itm_sz h k x (hx x q)).1, depths_le.mp (Nat.le_refl _) x q⟩
  have h0 := hp _ (List.getElem_mem hn)
  rw [e] at h0
  obtain ⟨o1, d1⟩ := h0
  have ot : ∀ x ∈ [.str trW, b1, b2], Ok x := by cases o1 with | tup z => exact z
  have ob1 := ot b1 (by simp)
  have ob2 := ot b2 (by simp)
  simp only [py, PyData.depth] at d1
  have dd := fun x (q : x ∈ [.str trW, b1, b2]) => depths_le.mp (show PyData.depthAll (pys [.str trW, b1, b2]) ≤ PyData.depthAll (pys xs) - 1 by omega) x q
  have db1 := dd b1 (by simp)
  have db2 := dd b2 (by simp)
  have hs := bulks_set hn (.tup [.str trW, c1, c2])
  rw [e] at hs
  simp only [py, pys, PyData.bulk, PyData.bulkAll] at hs
  have oc : Ok c1 ∧ Ok c2 ∧ (py c1).depth ≤ PyData.depthAll (pys xs) + 3 ∧ (py c2).depth ≤ PyData.depthAll (pys xs) + 3 ∧ (py c1).bulk + (py c2).bulk ≤ (py b1).bulk + (py b2).bulk + 100 := by
    rcases hc with ⟨⟨a1, a2, a3⟩, rfl⟩ | ⟨rfl, ⟨a1, a2, a3⟩⟩
    · exact ⟨a1, ob2, by omega, by omega, by omega⟩
    · exact ⟨ob1, a1, by omega, by omega, by omega⟩
  obtain ⟨q1, q2, q3, q4, q5⟩ := oc
  refine ⟨fun x q => ?_, by omega⟩
  rcases List.mem_or_eq_of_mem_set q with q | rfl
  · exact ⟨(hp x q).1, Nat.le_trans (hp x q).2 (by omega)⟩
  · have := Sz.tup (B := bulks [.str trW, c1, c2]) (k := PyData.depthAll (pys xs) + 3) (.cons ⟨(tr_sz).1, Nat.le_trans tr_sz.2.2 (by omega)⟩ (.cons ⟨q1, q3⟩ (.cons ⟨q2, q4⟩ .nil))) (Nat.le_refl _)
    exact ⟨this.1, this.2.2⟩
theorem odd_set {K : List Str} (h : Kn K K) {k : Nat} {xs : List D} (hx : ∀ x ∈ xs, Itm K K k x) {y : D} (hy : Sz 60 4 y) (r s : Nat) : Near xs (xs.take r ++ [y] ++ xs.drop (r + s)) := by
  have hp : Parts (PyData.depthAll (pys xs) + 4) xs := fun x q => ⟨(itm_sz h k x (hx x q)).1, Nat.le_trans (depths_le.mp (Nat.le_refl _) x q) (by omega)⟩
  refine ⟨((hp.take r).app (.cons ⟨hy.1, Nat.le_trans hy.2.2 (by omega)⟩ .nil)).app (hp.drop _), ?_⟩
  rw [bulks_app, bulks_app, bulks_cons, bulks_nil]
  have := bulks_cut xs r s
  have := hy.2.1
  omega
theorem bent_gen {K : List Str} (h : Kn K K) : ∀ (n k : Nat) (thing : D), k < n → Seq4 (Itm K K k) thing → Gen (m_l_bent n [.pen, .d thing]) (8 * n) (Bt thing)
  | 0, _, _, hk, _ => by omega
  | n + 1, k, thing, hk, hq => by
    obtain ⟨xs, e, hl, hx⟩ := hq
    show Gen (d_l_bent (m_l_bent n) thing) _ _
    unfold d_l_bent
    have ei : items thing = ret xs := by rcases e with rfl | rfl <;> rfl
    rw [ei, bnd_ret]
    refine (Gen.dr (c := 8 * n + 7) (by omega) (by omega) fun r q0 q1 => ?_).up (by omega)
    obtain ⟨at', rfl⟩ := Int.eq_ofNat_of_zero_le q0
    rw [rngI_ret (by omega), bnd_ret, Int.toNat_natCast, tries_eq hx (by omega), bnd_ret, neB_nil]
    have tst : Gen (andB (ret (!((triesB xs).map D.int).isEmpty)) (bnd (drw 2) fun r1 => ret (decide (r1 = 0)))) 1 (fun kk => kk = true → triesB xs ≠ []) := by
      cases q : triesB xs with
      | nil => exact (Gen.ret (fun z => by cases z)).up (by decide)
      | cons a l =>
        show Gen (bnd (drw 2) fun r1 => ret (decide (r1 = 0))) 1 _
        exact Gen.dr (c := 0) (by decide) (by decide) fun _ _ _ => Gen.ret fun _ => List.cons_ne_nil _ _
    refine (Gen.bind (d := 8 * n + 6) tst fun kk hkk => ?_).up (by omega)
    refine (Gen.bind (c := 8 * n + 4) (d := 1) (R := Near xs) ?_ fun js hj => pair_gen (near_bt e hj).1 (near_bt e hj).2).up (by omega)
    refine (Gen.cond (c := 8 * n + 4) (d := 8 * n + 4) (fun z => ?_) fun _ => ?_).up (Nat.max_le.mpr ⟨Nat.le_refl _, Nat.le_refl _⟩)
    · have hne := hkk z
      have hll : (triesB xs).length ≤ 4 := Nat.le_trans (List.length_filter_le _ _) (by rw [rngZ_len]; exact hl)
      have h0 : 0 < (triesB xs).length := List.length_pos_iff.mpr hne
      refine (Gen.bind (d := 8 * n + 1) (pick_gen (Q := fun d => ∃ i ∈ triesB xs, d = .int i) (by rw [List.length_map]; exact h0) (by rw [List.length_map]; omega) fun x q => ?_) fun k4 hk4 => ?_).up (by omega)
      · obtain ⟨i, hi, rfl⟩ := List.mem_map.mp q
        exact ⟨i, hi, rfl⟩
      · obtain ⟨i, hi, rfl⟩ := hk4
        obtain ⟨m, hm, k', b1, b2, rfl, rfl, e2, h1, h2⟩ := tries_mem hx hi
        simp only [bnd_bnd]
        refine (Gen.dr (c := 8 * n) (by decide) (by decide) fun r2 a b => ?_).up (by omega)
        rw [bnd_ret, iI, bnd_ret, ixL hm, bnd_ret, e2]
        have hr : r2 = 0 ∨ r2 = 1 := by omega
        rcases hr with rfl | rfl
        · rw [show (1 + 0 : Int) = ((1 : Nat) : Int) from rfl, show ((1 : Nat) : Int) + 1 = ((2 : Nat) : Int) from rfl, show ixD (.tup [.str trW, b1, b2]) (.int ((1 : Nat) : Int)) = ret b1 from ix1 _ _ _, bnd_ret]
          refine (Gen.bind (d := 0) (bent_gen h n k' b1 (by omega) h1) fun inner hin => ?_).up (by omega)
          rw [slD_tup, cut_take, bnd_ret, tup_add _ _ (by simp), bnd_ret, slD_tup, cut_drop, bnd_ret, tup_add _ _ (by simp), bnd_ret, bnd_ret]
          show Gen (bnd (setLW xs (.int m) (.tup [.str trW, inner, b2])) _) _ _
          rw [setL_ok hm, bnd_ret]
          exact Gen.ret (try_set h hx hm e2 (.inl ⟨hin, rfl⟩))
        · rw [show (1 + 1 : Int) = ((2 : Nat) : Int) from rfl, show ((2 : Nat) : Int) + 1 = ((3 : Nat) : Int) from rfl, show ixD (.tup [.str trW, b1, b2]) (.int ((2 : Nat) : Int)) = ret b2 from ix2 _ _ _ _, bnd_ret]
          refine (Gen.bind (d := 0) (bent_gen h n k' b2 (by omega) h2) fun inner hin => ?_).up (by omega)
          rw [slD_tup, cut_take, bnd_ret, tup_add _ _ (by simp), bnd_ret, slD_tup, cut_drop, bnd_ret, tup_add _ _ (by simp), bnd_ret, bnd_ret]
          show Gen (bnd (setLW xs (.int m) (.tup [.str trW, b1, inner])) _) _ _
          rw [setL_ok hm, bnd_ret]
          exact Gen.ret (try_set h hx hm e2 (.inr ⟨rfl, hin⟩))
    · simp only [bnd_bnd]
      refine (Gen.bind (c := 1) (d := 3) strange_gen fun y hy => ?_).up (by omega)
      refine (Gen.dr (c := 0) (by decide) (by decide) fun r3 a b => ?_).up (by omega)
      obtain ⟨sk, rfl⟩ := Int.eq_ofNat_of_zero_le a
      have hlt := List.length_take_le at' xs
      have hld : (xs.drop (at' + sk)).length ≤ xs.length := by rw [List.length_drop]; omega
      rw [bnd_ret, cut_take, addL_ok (by simp only [List.length_singleton]; omega), bnd_ret, show ((at' : Int) + (sk : Int)) = ((at' + sk : Nat) : Int) from rfl, cut_drop, addL_ok (by rw [List.length_append]; simp only [List.length_singleton]; omega), bnd_ret]
      exact Gen.ret (odd_set h hx hy at' sk)
end Q42

namespace Q42
open PySem PySem.Spec L2 PL
/-! ### the law -/
theorem rep1 (x : D) {k : Int} (h : 0 ≤ k ∧ k ≤ 1000) : repD (.lst [x]) (.int k) = ret (.lst (List.replicate k.toNat x)) := by
  show grd _ _ = _
  rw [grd_pos ⟨by omega, by omega, by rw [sizeLine_eq]; simp; omega⟩]
  unfold repL
  congr 2
  generalize k.toNat = n
  induction n with
  | zero => rfl
  | succ n ih => rw [List.replicate_succ, List.flatten_cons, ih]; rfl
theorem bool2_sz (b c : Bool) : Sz 10 1 (.lst [.bl b, .bl c]) := sz_chk (by cases b <;> cases c <;> decide +kernel)
def tbody (thing : D) (_ : Unit) : W (PL.Step Unit (PL.Step Unit D)) :=
    bnd (reprD thing) fun kept =>
    bnd (bnd (cl (d_l_due thing)) fun y5 => bnd (repD (.lst [y5]) (.int 2)) fun c1 => reprD c1) fun due =>
    bnd (bnd (cl (d_is_program thing)) fun y7 => bnd (cl (d_is_program thing)) fun y8 => ret [y7, y8]) fun told =>
    bnd (orB (bnd (reprD (.lst told)) fun y9 => neB y9 due) (bnd (reprD thing) fun y10 => neB y10 kept)) fun kk => if kk = true then
    ret (.out (.out (.bl false)))
    else
    ret (.go ())
theorem thing_ok {thing : D} (h : Sz 200000 17 thing) (j : Unit) : tbody thing j = PL.ret (.go ()) := by
  unfold tbody
  have hr := repr_sz h (by decide) (by decide)
  have hb := repr_sz (bool2_sz (okB (cn 6 thing 0)) (okB (cn 6 thing 0))) (by decide) (by decide)
  rw [hr, bnd_ret, due_ok thing (by have := h.2.2; omega), cl_ret, bnd_ret, rep1 _ (by decide), bnd_ret]
  show bnd (reprD (.lst [.bl (okB (cn 6 thing 0)), .bl (okB (cn 6 thing 0))])) _ = _
  rw [hb, bnd_ret, is_program_ok, cl_ret, bnd_ret, bnd_ret, bnd_ret, hb, bnd_ret, neB_str, bnd_ret, neB_str, beq_self_eq_true, beq_self_eq_true]
  rfl
theorem run_go {α γ : Type} {bd : α → Unit → W (PL.Step Unit γ)} {k : Unit → W γ} : ∀ {xs : List α}, (∀ x ∈ xs, bd x () = PL.ret (.go ())) → forT bd k xs () = k ()
  | [], _ => rfl
  | x :: xs, h => by
    unfold forT
    rw [h x List.mem_cons_self, bnd_ret]
    exact run_go fun y q => h y (List.mem_cons_of_mem _ q)
def mkA : D := .tup [.str (Str.ofString "mark"), .str (Str.ofString "a")]
def trA : D := .tup [.str (Str.ofString "try"), .tup [], .tup []]
def nst : Nat → List D
  | 0 => [mkA]
  | n + 1 => [.tup [.str (Str.ofString "try"), .lst (nst n), .tup []]]
theorem nest_run : ∀ (l : List Int) (n : Nat), forT (fun (_ : Int) (j : List D) => (ret (.go [(.tup [(.str (Str.ofString "try")), (.lst j), (.tup [])])]) : W (PL.Step (List D) D))) (fun j1 => ret (.lst j1)) l (nst n) = ret (.lst (nst (n + l.length)))
  | [], n => rfl
  | _ :: l, n => by
    unfold forT
    rw [bnd_ret]
    show forT _ _ l (nst (n + 1)) = _
    rw [nest_run l (n + 1), List.length_cons, show n + 1 + l.length = n + (l.length + 1) by omega]
theorem nest_eq (n : Nat) (h : n ≤ 1000) : d_l_nested (.int n) = ret (.lst (nst n)) := by
  unfold d_l_nested
  rw [iI, bnd_ret, rngI_ret (by omega), bnd_ret]
  have := nest_run (rngZ 0 (n : Int).toNat) 0
  rw [rngZ_len, Int.toNat_natCast, Nat.zero_add] at this
  rw [Int.toNat_natCast]
  exact this
def goods : List D := [.tup [], .lst [], .lst (List.replicate 20 mkA), .lst (List.replicate 4 trA), .lst (nst 3), .lst [.tup [.str (Str.ofString "try"), .lst ((List.replicate 20 mkA).take 10), .tup ((List.replicate 20 mkA).take 10)]], .lst ((List.replicate 20 mkA).take 19 ++ nst 3)]
def bads : List D := [.lst (List.replicate 20 mkA ++ (List.replicate 20 mkA).take 1), .lst (List.replicate 4 trA ++ (List.replicate 4 trA).take 1), .lst (nst 4), .lst [.tup [.str (Str.ofString "try"), .lst (List.replicate 20 mkA), .lst ((List.replicate 20 mkA).take 1)]], .lst (List.replicate 20 mkA ++ nst 1), .non]
def bads2 : List D := [.int 0, .str (Str.ofString ""), .str (Str.ofString "mark"), mkA, .dic [], .lst [.non], .tup [.tup []], .bl true, .lst [.tup [.str (Str.ofString "try"), .lst (List.replicate 4 trA), .tup []]], .lst (List.replicate 4 trA ++ nst 1)]
theorem all_told : (goods ++ (bads ++ bads2)).map (fun v => okB (cn 6 v 0)) = List.replicate 7 true ++ List.replicate 16 false := by decide +kernel
theorem last_ok : (bnd (repD (.lst [(.tup [(.str (Str.ofString "mark")), (.str (Str.ofString "a"))])]) (.int 20)) fun many =>
    bnd (repD (.lst [(.tup [(.str (Str.ofString "try")), (.tup []), (.tup [])])]) (.int 4)) fun tries =>
    bnd (bnd (cl (d_l_nested (.int 3))) fun y11 => bnd (slD many none (some 10)) fun s => bnd (slD many none (some 10)) fun s1 => bnd (tupD s1) fun t => bnd (slD many none (some 19)) fun s2 => bnd (cl (d_l_nested (.int 3))) fun y12 => bnd (addD s2 y12) fun c4 => ret [(.tup []), (.lst []), many, tries, y11, (.lst [(.tup [(.str (Str.ofString "try")), s, t])]), c4]) fun good =>
    bnd (bnd (slD many none (some 1)) fun s3 => bnd (addD many s3) fun c5 => bnd (slD tries none (some 1)) fun s4 => bnd (addD tries s4) fun c6 => bnd (cl (d_l_nested (.int 4))) fun y13 => bnd (slD many none (some 1)) fun s5 => bnd (cl (d_l_nested (.int 1))) fun y14 => bnd (addD many y14) fun c7 => ret [c5, c6, y13, (.lst [(.tup [(.str (Str.ofString "try")), many, s5])]), c7, .non]) fun bad =>
    bnd (bnd (cl (d_l_nested (.int 1))) fun y15 => bnd (addD tries y15) fun c8 => addL bad [(.int 0), (.str (Str.ofString "")), (.str (Str.ofString "mark")), (.tup [(.str (Str.ofString "mark")), (.str (Str.ofString "a"))]), (.dic []), (.lst [.non]), (.tup [(.tup [])]), (.bl true), (.lst [(.tup [(.str (Str.ofString "try")), tries, (.tup [])])]), c8]) fun bad1 =>
    bnd (addL good bad1) fun c10 => bnd (mapP (fun thing1 => cl (d_is_program thing1)) c10) fun xs1 => bnd (repD (.lst [(D.bl true)]) (.int 7)) fun c11 => bnd (repD (.lst [(D.bl false)]) (.int 16)) fun c12 => bnd (addD c11 c12) fun c13 => bnd (eqB (.lst xs1) c13) fun k4 => ret (D.bl k4) : W D) = PL.ret (D.bl true) := by
  have cut : ∀ (xs : List D) (n : Nat), slD (.lst xs) none (some (n : Int)) = ret (.lst (xs.take n)) := fun xs n => by rw [slD_lst, cut_take]
  have c10 : ∀ xs : List D, slD (.lst xs) none (some 10) = ret (.lst (xs.take 10)) := fun xs => cut xs 10
  have c19 : ∀ xs : List D, slD (.lst xs) none (some 19) = ret (.lst (xs.take 19)) := fun xs => cut xs 19
  have c1 : ∀ xs : List D, slD (.lst xs) none (some 1) = ret (.lst (xs.take 1)) := fun xs => cut xs 1
  have n1 : d_l_nested (.int 1) = ret (.lst (nst 1)) := nest_eq 1 (by decide)
  have n3 : d_l_nested (.int 3) = ret (.lst (nst 3)) := nest_eq 3 (by decide)
  have n4 : d_l_nested (.int 4) = ret (.lst (nst 4)) := nest_eq 4 (by decide)
  have tl : ∀ xs : List D, tupD (.lst xs) = ret (.tup xs) := fun _ => rfl
  rw [rep1 _ (by decide), bnd_ret, rep1 _ (by decide), bnd_ret]
  show bnd (bnd (cl (d_l_nested (.int 3))) _) _ = _
  simp only [n1, n3, n4, cl_ret, bnd_ret, c10, c19, c1, tl]
  rw [lst_add _ _ (by decide), bnd_ret, bnd_ret]
  rw [lst_add _ _ (by decide), bnd_ret, lst_add _ _ (by decide), bnd_ret, lst_add _ _ (by decide), bnd_ret, bnd_ret]
  rw [lst_add _ _ (by decide), bnd_ret, addL_ok (by decide), bnd_ret, addL_ok (by decide), bnd_ret]
  rw [mapP_ret (g := fun v => .bl (okB (cn 6 v 0))) (by decide) (fun v _ => by rw [is_program_ok, cl_ret]), bnd_ret, rep1 _ (by decide), bnd_ret, rep1 _ (by decide), bnd_ret, lst_add _ _ (by decide), bnd_ret]
  show bnd (eqB (.lst ((goods ++ (bads ++ bads2)).map fun v => .bl (okB (cn 6 v 0)))) (.lst (List.replicate 7 (.bl true) ++ List.replicate 16 (.bl false)))) _ = _
  have e : (goods ++ (bads ++ bads2)).map (fun v => D.bl (okB (cn 6 v 0))) = List.replicate 7 (.bl true) ++ List.replicate 16 (.bl false) := by
    have := congrArg (List.map D.bl) all_told
    rw [List.map_map] at this
    exact this.trans rfl
  rw [e, eqB_same (by decide +kernel), bnd_ret]
theorem other_sz {b : D} (h : Sz 86012 9 b) : ∀ y ∈ [b, .lst [b], .tup [b], .tup [.str (Str.ofString "try"), b, b], .lst [.tup [.str (Str.ofString "try"), b, b]]], Sz 200000 17 y := by
  have tr : Sz 3 0 (.str (Str.ofString "try")) := tr_sz
  have t : Sz 172040 10 (.tup [.str (Str.ofString "try"), b, b]) := by
    refine .tup (.cons (tr.up (Nat.le_refl _) (by decide)).pt (.cons h.pt (.cons h.pt .nil))) ?_
    rw [bulks_cons, bulks_cons, bulks_cons, bulks_nil]
    have := h.2.1
    have := tr.2.1
    omega
  intro y hy
  simp only [List.mem_cons, List.not_mem_nil, or_false] at hy
  have hb := h.2.1
  rcases hy with rfl | rfl | rfl | rfl | rfl
  · exact h.up (by decide) (by decide)
  · exact (Sz.lst (B := 86013) (.cons h.pt .nil) (by rw [bulks_cons, bulks_nil]; omega)).up (by decide) (by decide)
  · exact (Sz.tup (B := 86013) (.cons h.pt .nil) (by rw [bulks_cons, bulks_nil]; omega)).up (by decide) (by decide)
  · exact t.up (by decide) (by decide)
  · exact (Sz.lst (B := 172050) (.cons t.pt .nil) (by rw [bulks_cons, bulks_nil]; have := t.2.1; omega)).up (by decide) (by decide)
theorem law_gen : GenM (fun _ => True) d_law 400000 (fun d => d = .bl true) := by
  unfold d_law
  rw [rngK_eq, rngI_ret (by decide), bnd_ret]
  refine (GenM.forI (c := 90000) (d := 0) (N := 4) (i := 0) (I := fun _ _ => True) (by rw [rngZ_len]; decide) (fun turn _ i j _ _ => ?_) (fun _ _ _ _ => ?_) trivial).up (by rw [rngZ_len]; decide)
  · refine (GenM.bind (c := 9) (d := 80000) (labels_gen (n := 3) (by decide) (by decide)).m fun labels ⟨K, eK, lK, nK, wK⟩ => ?_).up (by decide)
    subst eK
    have hk : Kn K K := ⟨wK, wK, nK, by omega, by omega, by omega, by omega⟩
    refine (GenM.bind (c := 60000) (d := 300) (two_mk fun a => ?_) fun block (hb : Seq4 (Itm K K 3) block) => ?_).up (by decide)
    · rw [k_l_block_eq]
      exact (block_gen hk a 5 3 0 (by decide) (by decide)).up (by decide)
    · have sb : Sz 86012 9 block := blk_sz hk hb
      refine Gen.m ?_
      rw [bnd_ret]
      refine (Gen.bind (c := 280) (d := 1) (R := fun xs => xs.length ≤ 10 ∧ ∀ x ∈ xs, Sz 200000 17 x) ?_ fun someV ⟨l1, h1⟩ => ?_).up (by decide)
      · refine (Gen.bind (c := 70 * 4) (d := 0) (Gen.map (c := 70) (Q := Bt block) 4 (by rw [rngZ_len]; decide) fun x _ => ?_) fun ys ⟨yl, yh⟩ => ?_).up (by decide)
        · rw [k_l_bent_eq]
          exact (bent_gen hk 7 3 block (by decide) hb).up (by decide)
        · rw [rngZ_len] at yl
          have yl : ys.length = 4 := yl
          rw [addL_ok (by rw [yl]; exact Nat.le_of_ble_eq_true rfl)]
          refine Gen.ret ⟨by rw [List.length_append, yl]; exact Nat.le_of_ble_eq_true rfl, fun x q => ?_⟩
          rcases List.mem_append.mp q with q | q
          · rw [List.mem_singleton.mp q]
            exact sb.up (by decide) (by decide)
          · obtain ⟨o1, o2, o3⟩ := yh x q
            exact ⟨o1, by have := sb.2.1; omega, by have := sb.2.2; omega⟩
      · refine Gen.bind (c := 1) (d := 0) (R := Sz 200000 17) (Gen.dr (c := 0) (by decide) (by decide) fun r q0 q1 => Gen.pickL0 q0 (by simp; omega) (other_sz sb)) fun y sy => ?_
        have all : ∀ x ∈ someV ++ [y], Sz 200000 17 x := fun x q => (List.mem_append.mp q).elim (h1 x) fun q => by rw [List.mem_singleton.mp q]; exact sy
        show Gen (roomL someV (forT tbody (fun _ => PL.ret (.go ())) (someV ++ [y]) ())) 0 _
        rw [run_go fun x q => thing_ok (all x q) ()]
        exact Gen.room (by omega) (Gen.ret ⟨(), rfl, trivial⟩)
  · rw [last_ok]
    exact GenM.ret rfl
theorem holds : d_law n0 (fun d _ => d = .bl true) (fun _ _ => False) := law_gen n0 _ _ (by decide) trivial fun a k q _ _ _ => q
end Q42

namespace Q42
open PySem PySem.Spec L2 PL
section
variable {w : World} {K : PySem.W.Frag} {h : Heap} {mg : Str → Option Value} (X : K.In h) (G : h.Ns mainGlobals mg)
include X G
set_option maxHeartbeats 0 in
theorem fin {P : Program} {fa : Addr} (holds : d_law n0 (fun d _ => d = .bl true) (fun _ _ => False)) (hfa : mg "law" = some (.ref fa)) (z_abs : PySem.W.nsIn K mainGlobals "abs" = some none)
  (z_all : PySem.W.nsIn K mainGlobals "all" = some none)
  (z_bool : PySem.W.nsIn K mainGlobals "bool" = some none)
  (z_int : PySem.W.nsIn K mainGlobals "int" = some none)
  (z_isinstance : PySem.W.nsIn K mainGlobals "isinstance" = some none)
  (z_len : PySem.W.nsIn K mainGlobals "len" = some none)
  (z_list : PySem.W.nsIn K mainGlobals "list" = some none)
  (z_range : PySem.W.nsIn K mainGlobals "range" = some none)
  (z_repr : PySem.W.nsIn K mainGlobals "repr" = some none)
  (z_str : PySem.W.nsIn K mainGlobals "str" = some none)
  (z_sum : PySem.W.nsIn K mainGlobals "sum" = some none)
  (z_tuple : PySem.W.nsIn K mainGlobals "tuple" = some none)
  {t_BACK : Tok} (c_BACK : PySem.W.nsIn K mainGlobals "BACK" = some (some (.str "back" t_BACK)))
  {t_DEEPEST_TRY : Tok} (c_DEEPEST_TRY : PySem.W.nsIn K mainGlobals "DEEPEST_TRY" = some (some (.int 3 t_DEEPEST_TRY)))
  {t_DEL : Tok} (c_DEL : PySem.W.nsIn K mainGlobals "DEL" = some (some (.str "del" t_DEL)))
  {t_GREATEST_VALUE : Tok} (c_GREATEST_VALUE : PySem.W.nsIn K mainGlobals "GREATEST_VALUE" = some (some (.int 1000000000000000000 t_GREATEST_VALUE)))
  {t_KEEP : Tok} (c_KEEP : PySem.W.nsIn K mainGlobals "KEEP" = some (some (.str "keep" t_KEEP)))
  {t_LETTERS : Tok} (c_LETTERS : PySem.W.nsIn K mainGlobals "LETTERS" = some (some (.str "abcdefghijklmnopqrstuvwxyz" t_LETTERS)))
  {t_LONGEST_WORD : Tok} (c_LONGEST_WORD : PySem.W.nsIn K mainGlobals "LONGEST_WORD" = some (some (.int 8 t_LONGEST_WORD)))
  {t_MARK : Tok} (c_MARK : PySem.W.nsIn K mainGlobals "MARK" = some (some (.str "mark" t_MARK)))
  {t_MOST_TRIED_COMMANDS : Tok} (c_MOST_TRIED_COMMANDS : PySem.W.nsIn K mainGlobals "MOST_TRIED_COMMANDS" = some (some (.int 20 t_MOST_TRIED_COMMANDS)))
  {t_MOST_TRIES : Tok} (c_MOST_TRIES : PySem.W.nsIn K mainGlobals "MOST_TRIES" = some (some (.int 4 t_MOST_TRIES)))
  {t_SET : Tok} (c_SET : PySem.W.nsIn K mainGlobals "SET" = some (some (.str "set" t_SET)))
  {t_TRY : Tok} (c_TRY : PySem.W.nsIn K mainGlobals "TRY" = some (some (.str "try" t_TRY)))
  {f_is_integer : Addr} {od_is_integer an_is_integer : Option Addr} {sl_is_integer : Array (Option Value)} {oc_is_integer kV_is_integer dc_is_integer pm_is_integer cd_is_integer ct_is_integer : Value}
  (a_is_integer : PySem.W.nsIn K mainGlobals "is_integer" = some (some (.ref f_is_integer)))
  (l_is_integer : K.lookup f_is_integer = some ⟨oc_is_integer, od_is_integer, .func (PySem.W.fnOf "is_integer" "is_integer" (defArgs s_is_integer) (defBody s_is_integer) (defScope s_is_integer) .none kV_is_integer dc_is_integer pm_is_integer an_is_integer cd_is_integer ct_is_integer), sl_is_integer⟩)
  (e_is_integer : PySem.W.codeIn K cd_is_integer "is_integer" = true)
  (k_is_integer : PySem.W.keepIn K (.ref f_is_integer) = true)
  {f_is_between : Addr} {od_is_between an_is_between : Option Addr} {sl_is_between : Array (Option Value)} {oc_is_between kV_is_between dc_is_between pm_is_between cd_is_between ct_is_between : Value}
  (a_is_between : PySem.W.nsIn K mainGlobals "is_between" = some (some (.ref f_is_between)))
  (l_is_between : K.lookup f_is_between = some ⟨oc_is_between, od_is_between, .func (PySem.W.fnOf "is_between" "is_between" (defArgs s_is_between) (defBody s_is_between) (defScope s_is_between) .none kV_is_between dc_is_between pm_is_between an_is_between cd_is_between ct_is_between), sl_is_between⟩)
  (e_is_between : PySem.W.codeIn K cd_is_between "is_between" = true)
  (k_is_between : PySem.W.keepIn K (.ref f_is_between) = true)
  {f_is_word : Addr} {od_is_word an_is_word : Option Addr} {sl_is_word : Array (Option Value)} {oc_is_word kV_is_word dc_is_word pm_is_word cd_is_word ct_is_word : Value}
  (a_is_word : PySem.W.nsIn K mainGlobals "is_word" = some (some (.ref f_is_word)))
  (l_is_word : K.lookup f_is_word = some ⟨oc_is_word, od_is_word, .func (PySem.W.fnOf "is_word" "is_word" (defArgs s_is_word) (defBody s_is_word) (defScope s_is_word) .none kV_is_word dc_is_word pm_is_word an_is_word cd_is_word ct_is_word), sl_is_word⟩)
  (e_is_word : PySem.W.codeIn K cd_is_word "is_word" = true)
  (k_is_word : PySem.W.keepIn K (.ref f_is_word) = true)
  {f_is_value : Addr} {od_is_value an_is_value : Option Addr} {sl_is_value : Array (Option Value)} {oc_is_value kV_is_value dc_is_value pm_is_value cd_is_value ct_is_value : Value}
  (a_is_value : PySem.W.nsIn K mainGlobals "is_value" = some (some (.ref f_is_value)))
  (l_is_value : K.lookup f_is_value = some ⟨oc_is_value, od_is_value, .func (PySem.W.fnOf "is_value" "is_value" (defArgs s_is_value) (defBody s_is_value) (defScope s_is_value) .none kV_is_value dc_is_value pm_is_value an_is_value cd_is_value ct_is_value), sl_is_value⟩)
  (e_is_value : PySem.W.codeIn K cd_is_value "is_value" = true)
  (k_is_value : PySem.W.keepIn K (.ref f_is_value) = true)
  {f_is_command : Addr} {od_is_command an_is_command : Option Addr} {sl_is_command : Array (Option Value)} {oc_is_command kV_is_command dc_is_command pm_is_command cd_is_command ct_is_command : Value}
  (a_is_command : PySem.W.nsIn K mainGlobals "is_command" = some (some (.ref f_is_command)))
  (l_is_command : K.lookup f_is_command = some ⟨oc_is_command, od_is_command, .func (PySem.W.fnOf "is_command" "is_command" (defArgs s_is_command) (defBody s_is_command) (defScope s_is_command) .none kV_is_command dc_is_command pm_is_command an_is_command cd_is_command ct_is_command), sl_is_command⟩)
  (e_is_command : PySem.W.codeIn K cd_is_command "is_command" = true)
  (k_is_command : PySem.W.keepIn K (.ref f_is_command) = true)
  {f_is_try : Addr} {od_is_try an_is_try : Option Addr} {sl_is_try : Array (Option Value)} {oc_is_try kV_is_try dc_is_try pm_is_try cd_is_try ct_is_try : Value}
  (a_is_try : PySem.W.nsIn K mainGlobals "is_try" = some (some (.ref f_is_try)))
  (l_is_try : K.lookup f_is_try = some ⟨oc_is_try, od_is_try, .func (PySem.W.fnOf "is_try" "is_try" (defArgs s_is_try) (defBody s_is_try) (defScope s_is_try) .none kV_is_try dc_is_try pm_is_try an_is_try cd_is_try ct_is_try), sl_is_try⟩)
  (e_is_try : PySem.W.codeIn K cd_is_try "is_try" = true)
  (k_is_try : PySem.W.keepIn K (.ref f_is_try) = true)
  {f_parts_of : Addr} {od_parts_of an_parts_of : Option Addr} {sl_parts_of : Array (Option Value)} {oc_parts_of kV_parts_of dc_parts_of pm_parts_of cd_parts_of ct_parts_of : Value}
  (a_parts_of : PySem.W.nsIn K mainGlobals "parts_of" = some (some (.ref f_parts_of)))
  (l_parts_of : K.lookup f_parts_of = some ⟨oc_parts_of, od_parts_of, .func (PySem.W.fnOf "parts_of" "parts_of" (defArgs s_parts_of) (defBody s_parts_of) (defScope s_parts_of) .none kV_parts_of dc_parts_of pm_parts_of an_parts_of cd_parts_of ct_parts_of), sl_parts_of⟩)
  (e_parts_of : PySem.W.codeIn K cd_parts_of "parts_of" = true)
  (k_parts_of : PySem.W.keepIn K (.ref f_parts_of) = true)
  {f_is_program : Addr} {od_is_program an_is_program : Option Addr} {sl_is_program : Array (Option Value)} {oc_is_program kV_is_program dc_is_program pm_is_program cd_is_program ct_is_program : Value}
  (a_is_program : PySem.W.nsIn K mainGlobals "is_program" = some (some (.ref f_is_program)))
  (l_is_program : K.lookup f_is_program = some ⟨oc_is_program, od_is_program, .func (PySem.W.fnOf "is_program" "is_program" (defArgs s_is_program) (defBody s_is_program) (defScope s_is_program) .none kV_is_program dc_is_program pm_is_program an_is_program cd_is_program ct_is_program), sl_is_program⟩)
  (e_is_program : PySem.W.codeIn K cd_is_program "is_program" = true)
  (k_is_program : PySem.W.keepIn K (.ref f_is_program) = true)
  {f_l_deck : Addr} {od_l_deck an_l_deck : Option Addr} {sl_l_deck : Array (Option Value)} {oc_l_deck kV_l_deck dc_l_deck pm_l_deck cd_l_deck ct_l_deck : Value}
  (a_l_deck : PySem.W.nsIn K mainGlobals "_law_deck" = some (some (.ref f_l_deck)))
  (l_l_deck : K.lookup f_l_deck = some ⟨oc_l_deck, od_l_deck, .func (PySem.W.fnOf "_law_deck" "_law_deck" (defArgs s_l_deck) (defBody s_l_deck) (defScope s_l_deck) .none kV_l_deck dc_l_deck pm_l_deck an_l_deck cd_l_deck ct_l_deck), sl_l_deck⟩)
  (e_l_deck : PySem.W.codeIn K cd_l_deck "_law_deck" = true)
  (k_l_deck : PySem.W.keepIn K (.ref f_l_deck) = true)
  {f_l_draw : Addr} {od_l_draw an_l_draw : Option Addr} {sl_l_draw : Array (Option Value)} {oc_l_draw kV_l_draw dc_l_draw pm_l_draw cd_l_draw ct_l_draw : Value}
  (a_l_draw : PySem.W.nsIn K mainGlobals "_law_draw" = some (some (.ref f_l_draw)))
  (l_l_draw : K.lookup f_l_draw = some ⟨oc_l_draw, od_l_draw, .func (PySem.W.fnOf "_law_draw" "_law_draw" (defArgs s_l_draw) (defBody s_l_draw) (defScope s_l_draw) .none kV_l_draw dc_l_draw pm_l_draw an_l_draw cd_l_draw ct_l_draw), sl_l_draw⟩)
  (e_l_draw : PySem.W.codeIn K cd_l_draw "_law_draw" = true)
  (k_l_draw : PySem.W.keepIn K (.ref f_l_draw) = true)
  {f_l_pick : Addr} {od_l_pick an_l_pick : Option Addr} {sl_l_pick : Array (Option Value)} {oc_l_pick kV_l_pick dc_l_pick pm_l_pick cd_l_pick ct_l_pick : Value}
  (a_l_pick : PySem.W.nsIn K mainGlobals "_law_pick" = some (some (.ref f_l_pick)))
  (l_l_pick : K.lookup f_l_pick = some ⟨oc_l_pick, od_l_pick, .func (PySem.W.fnOf "_law_pick" "_law_pick" (defArgs s_l_pick) (defBody s_l_pick) (defScope s_l_pick) .none kV_l_pick dc_l_pick pm_l_pick an_l_pick cd_l_pick ct_l_pick), sl_l_pick⟩)
  (e_l_pick : PySem.W.codeIn K cd_l_pick "_law_pick" = true)
  (k_l_pick : PySem.W.keepIn K (.ref f_l_pick) = true)
  {f_l_labels : Addr} {od_l_labels an_l_labels : Option Addr} {sl_l_labels : Array (Option Value)} {oc_l_labels kV_l_labels dc_l_labels pm_l_labels cd_l_labels ct_l_labels : Value}
  (a_l_labels : PySem.W.nsIn K mainGlobals "_law_labels" = some (some (.ref f_l_labels)))
  (l_l_labels : K.lookup f_l_labels = some ⟨oc_l_labels, od_l_labels, .func (PySem.W.fnOf "_law_labels" "_law_labels" (defArgs s_l_labels) (defBody s_l_labels) (defScope s_l_labels) .none kV_l_labels dc_l_labels pm_l_labels an_l_labels cd_l_labels ct_l_labels), sl_l_labels⟩)
  (e_l_labels : PySem.W.codeIn K cd_l_labels "_law_labels" = true)
  (k_l_labels : PySem.W.keepIn K (.ref f_l_labels) = true)
  {f_l_entry : Addr} {od_l_entry an_l_entry : Option Addr} {sl_l_entry : Array (Option Value)} {oc_l_entry kV_l_entry dc_l_entry pm_l_entry cd_l_entry ct_l_entry : Value}
  (a_l_entry : PySem.W.nsIn K mainGlobals "_law_entry" = some (some (.ref f_l_entry)))
  (l_l_entry : K.lookup f_l_entry = some ⟨oc_l_entry, od_l_entry, .func (PySem.W.fnOf "_law_entry" "_law_entry" (defArgs s_l_entry) (defBody s_l_entry) (defScope s_l_entry) .none kV_l_entry dc_l_entry pm_l_entry an_l_entry cd_l_entry ct_l_entry), sl_l_entry⟩)
  (e_l_entry : PySem.W.codeIn K cd_l_entry "_law_entry" = true)
  (k_l_entry : PySem.W.keepIn K (.ref f_l_entry) = true)
  {f_l_command : Addr} {od_l_command an_l_command : Option Addr} {sl_l_command : Array (Option Value)} {oc_l_command kV_l_command dc_l_command pm_l_command cd_l_command ct_l_command : Value}
  (a_l_command : PySem.W.nsIn K mainGlobals "_law_command" = some (some (.ref f_l_command)))
  (l_l_command : K.lookup f_l_command = some ⟨oc_l_command, od_l_command, .func (PySem.W.fnOf "_law_command" "_law_command" (defArgs s_l_command) (defBody s_l_command) (defScope s_l_command) .none kV_l_command dc_l_command pm_l_command an_l_command cd_l_command ct_l_command), sl_l_command⟩)
  (e_l_command : PySem.W.codeIn K cd_l_command "_law_command" = true)
  (k_l_command : PySem.W.keepIn K (.ref f_l_command) = true)
  {f_l_block : Addr} {od_l_block an_l_block : Option Addr} {sl_l_block : Array (Option Value)} {oc_l_block kV_l_block dc_l_block pm_l_block cd_l_block ct_l_block : Value}
  (a_l_block : PySem.W.nsIn K mainGlobals "_law_block" = some (some (.ref f_l_block)))
  (l_l_block : K.lookup f_l_block = some ⟨oc_l_block, od_l_block, .func (PySem.W.fnOf "_law_block" "_law_block" (defArgs s_l_block) (defBody s_l_block) (defScope s_l_block) .none kV_l_block dc_l_block pm_l_block an_l_block cd_l_block ct_l_block), sl_l_block⟩)
  (e_l_block : PySem.W.codeIn K cd_l_block "_law_block" = true)
  (k_l_block : PySem.W.keepIn K (.ref f_l_block) = true)
  {f_l_whole : Addr} {od_l_whole an_l_whole : Option Addr} {sl_l_whole : Array (Option Value)} {oc_l_whole kV_l_whole dc_l_whole pm_l_whole cd_l_whole ct_l_whole : Value}
  (a_l_whole : PySem.W.nsIn K mainGlobals "_law_whole" = some (some (.ref f_l_whole)))
  (l_l_whole : K.lookup f_l_whole = some ⟨oc_l_whole, od_l_whole, .func (PySem.W.fnOf "_law_whole" "_law_whole" (defArgs s_l_whole) (defBody s_l_whole) (defScope s_l_whole) .none kV_l_whole dc_l_whole pm_l_whole an_l_whole cd_l_whole ct_l_whole), sl_l_whole⟩)
  (e_l_whole : PySem.W.codeIn K cd_l_whole "_law_whole" = true)
  (k_l_whole : PySem.W.keepIn K (.ref f_l_whole) = true)
  {f_l_label : Addr} {od_l_label an_l_label : Option Addr} {sl_l_label : Array (Option Value)} {oc_l_label kV_l_label dc_l_label pm_l_label cd_l_label ct_l_label : Value}
  (a_l_label : PySem.W.nsIn K mainGlobals "_law_label" = some (some (.ref f_l_label)))
  (l_l_label : K.lookup f_l_label = some ⟨oc_l_label, od_l_label, .func (PySem.W.fnOf "_law_label" "_law_label" (defArgs s_l_label) (defBody s_l_label) (defScope s_l_label) .none kV_l_label dc_l_label pm_l_label an_l_label cd_l_label ct_l_label), sl_l_label⟩)
  (e_l_label : PySem.W.codeIn K cd_l_label "_law_label" = true)
  (k_l_label : PySem.W.keepIn K (.ref f_l_label) = true)
  {f_l_is_command : Addr} {od_l_is_command an_l_is_command : Option Addr} {sl_l_is_command : Array (Option Value)} {oc_l_is_command kV_l_is_command dc_l_is_command pm_l_is_command cd_l_is_command ct_l_is_command : Value}
  (a_l_is_command : PySem.W.nsIn K mainGlobals "_law_is_command" = some (some (.ref f_l_is_command)))
  (l_l_is_command : K.lookup f_l_is_command = some ⟨oc_l_is_command, od_l_is_command, .func (PySem.W.fnOf "_law_is_command" "_law_is_command" (defArgs s_l_is_command) (defBody s_l_is_command) (defScope s_l_is_command) .none kV_l_is_command dc_l_is_command pm_l_is_command an_l_is_command cd_l_is_command ct_l_is_command), sl_l_is_command⟩)
  (e_l_is_command : PySem.W.codeIn K cd_l_is_command "_law_is_command" = true)
  (k_l_is_command : PySem.W.keepIn K (.ref f_l_is_command) = true)
  {f_l_counted : Addr} {od_l_counted an_l_counted : Option Addr} {sl_l_counted : Array (Option Value)} {oc_l_counted kV_l_counted dc_l_counted pm_l_counted cd_l_counted ct_l_counted : Value}
  (a_l_counted : PySem.W.nsIn K mainGlobals "_law_counted" = some (some (.ref f_l_counted)))
  (l_l_counted : K.lookup f_l_counted = some ⟨oc_l_counted, od_l_counted, .func (PySem.W.fnOf "_law_counted" "_law_counted" (defArgs s_l_counted) (defBody s_l_counted) (defScope s_l_counted) .none kV_l_counted dc_l_counted pm_l_counted an_l_counted cd_l_counted ct_l_counted), sl_l_counted⟩)
  (e_l_counted : PySem.W.codeIn K cd_l_counted "_law_counted" = true)
  (k_l_counted : PySem.W.keepIn K (.ref f_l_counted) = true)
  {f_l_due : Addr} {od_l_due an_l_due : Option Addr} {sl_l_due : Array (Option Value)} {oc_l_due kV_l_due dc_l_due pm_l_due cd_l_due ct_l_due : Value}
  (a_l_due : PySem.W.nsIn K mainGlobals "_law_due" = some (some (.ref f_l_due)))
  (l_l_due : K.lookup f_l_due = some ⟨oc_l_due, od_l_due, .func (PySem.W.fnOf "_law_due" "_law_due" (defArgs s_l_due) (defBody s_l_due) (defScope s_l_due) .none kV_l_due dc_l_due pm_l_due an_l_due cd_l_due ct_l_due), sl_l_due⟩)
  (e_l_due : PySem.W.codeIn K cd_l_due "_law_due" = true)
  (k_l_due : PySem.W.keepIn K (.ref f_l_due) = true)
  {f_l_strange : Addr} {od_l_strange an_l_strange : Option Addr} {sl_l_strange : Array (Option Value)} {oc_l_strange kV_l_strange dc_l_strange pm_l_strange cd_l_strange ct_l_strange : Value}
  (a_l_strange : PySem.W.nsIn K mainGlobals "_law_strange" = some (some (.ref f_l_strange)))
  (l_l_strange : K.lookup f_l_strange = some ⟨oc_l_strange, od_l_strange, .func (PySem.W.fnOf "_law_strange" "_law_strange" (defArgs s_l_strange) (defBody s_l_strange) (defScope s_l_strange) .none kV_l_strange dc_l_strange pm_l_strange an_l_strange cd_l_strange ct_l_strange), sl_l_strange⟩)
  (e_l_strange : PySem.W.codeIn K cd_l_strange "_law_strange" = true)
  (k_l_strange : PySem.W.keepIn K (.ref f_l_strange) = true)
  {f_l_bent : Addr} {od_l_bent an_l_bent : Option Addr} {sl_l_bent : Array (Option Value)} {oc_l_bent kV_l_bent dc_l_bent pm_l_bent cd_l_bent ct_l_bent : Value}
  (a_l_bent : PySem.W.nsIn K mainGlobals "_law_bent" = some (some (.ref f_l_bent)))
  (l_l_bent : K.lookup f_l_bent = some ⟨oc_l_bent, od_l_bent, .func (PySem.W.fnOf "_law_bent" "_law_bent" (defArgs s_l_bent) (defBody s_l_bent) (defScope s_l_bent) .none kV_l_bent dc_l_bent pm_l_bent an_l_bent cd_l_bent ct_l_bent), sl_l_bent⟩)
  (e_l_bent : PySem.W.codeIn K cd_l_bent "_law_bent" = true)
  (k_l_bent : PySem.W.keepIn K (.ref f_l_bent) = true)
  {f_l_nested : Addr} {od_l_nested an_l_nested : Option Addr} {sl_l_nested : Array (Option Value)} {oc_l_nested kV_l_nested dc_l_nested pm_l_nested cd_l_nested ct_l_nested : Value}
  (a_l_nested : PySem.W.nsIn K mainGlobals "_law_nested" = some (some (.ref f_l_nested)))
  (l_l_nested : K.lookup f_l_nested = some ⟨oc_l_nested, od_l_nested, .func (PySem.W.fnOf "_law_nested" "_law_nested" (defArgs s_l_nested) (defBody s_l_nested) (defScope s_l_nested) .none kV_l_nested dc_l_nested pm_l_nested an_l_nested cd_l_nested ct_l_nested), sl_l_nested⟩)
  (e_l_nested : PySem.W.codeIn K cd_l_nested "_law_nested" = true)
  (k_l_nested : PySem.W.keepIn K (.ref f_l_nested) = true)
  {f_law : Addr} {od_law an_law : Option Addr} {sl_law : Array (Option Value)} {oc_law kV_law dc_law pm_law cd_law ct_law : Value}
  (a_law : PySem.W.nsIn K mainGlobals "law" = some (some (.ref f_law)))
  (l_law : K.lookup f_law = some ⟨oc_law, od_law, .func (PySem.W.fnOf "law" "law" (defArgs s_law) (defBody s_law) (defScope s_law) .none kV_law dc_law pm_law an_law cd_law ct_law), sl_law⟩)
  (e_law : PySem.W.codeIn K cd_law "law" = true)
  (k_law : PySem.W.keepIn K (.ref f_law) = true) :
  ∃ fd : FuncData, (∀ (s : Shared) (u : Value), BindsTo s fd ⟨[u], []⟩ [("_law_script", u)]) ∧ ∀ base : Heap, K.In base → base.Ns mainGlobals mg → FnG P w K mg base 14 fa fd ["_law_script"] (spLaw K) := by
  have e := hfa.symm.trans (PySem.W.mg_of X G a_law)
  cases e
  have T : ∃ T : Facts K mg, T.f_law = fa ∧ T.d_law = PySem.W.fnOf "law" "law" (defArgs s_law) (defBody s_law) (defScope s_law) .none kV_law dc_law pm_law an_law cd_law ct_law := ⟨⟨PySem.W.mg_none_of X G z_abs,
    PySem.W.mg_none_of X G z_all,
    PySem.W.mg_none_of X G z_bool,
    PySem.W.mg_none_of X G z_int,
    PySem.W.mg_none_of X G z_isinstance,
    PySem.W.mg_none_of X G z_len,
    PySem.W.mg_none_of X G z_list,
    PySem.W.mg_none_of X G z_range,
    PySem.W.mg_none_of X G z_repr,
    PySem.W.mg_none_of X G z_str,
    PySem.W.mg_none_of X G z_sum,
    PySem.W.mg_none_of X G z_tuple,
    ⟨t_BACK, PySem.W.mg_of X G c_BACK⟩,
    ⟨t_DEEPEST_TRY, PySem.W.mg_of X G c_DEEPEST_TRY⟩,
    ⟨t_DEL, PySem.W.mg_of X G c_DEL⟩,
    ⟨t_GREATEST_VALUE, PySem.W.mg_of X G c_GREATEST_VALUE⟩,
    ⟨t_KEEP, PySem.W.mg_of X G c_KEEP⟩,
    ⟨t_LETTERS, PySem.W.mg_of X G c_LETTERS⟩,
    ⟨t_LONGEST_WORD, PySem.W.mg_of X G c_LONGEST_WORD⟩,
    ⟨t_MARK, PySem.W.mg_of X G c_MARK⟩,
    ⟨t_MOST_TRIED_COMMANDS, PySem.W.mg_of X G c_MOST_TRIED_COMMANDS⟩,
    ⟨t_MOST_TRIES, PySem.W.mg_of X G c_MOST_TRIES⟩,
    ⟨t_SET, PySem.W.mg_of X G c_SET⟩,
    ⟨t_TRY, PySem.W.mg_of X G c_TRY⟩,
    f_is_integer, _, (fun_mk (st := s_is_integer) l_is_integer e_is_integer k_is_integer), PySem.W.mg_of X G a_is_integer, ((fun_mk (st := s_is_integer) l_is_integer e_is_integer k_is_integer)).binds (ps := ["value"]) fun _ _ _ _ _ _ us hl => match us, hl with | [_], _ => rfl,
    f_is_between, _, (fun_mk (st := s_is_between) l_is_between e_is_between k_is_between), PySem.W.mg_of X G a_is_between, ((fun_mk (st := s_is_between) l_is_between e_is_between k_is_between)).binds (ps := ["value", "least", "most"]) fun _ _ _ _ _ _ us hl => match us, hl with | [_, _, _], _ => rfl,
    f_is_word, _, (fun_mk (st := s_is_word) l_is_word e_is_word k_is_word), PySem.W.mg_of X G a_is_word, ((fun_mk (st := s_is_word) l_is_word e_is_word k_is_word)).binds (ps := ["value"]) fun _ _ _ _ _ _ us hl => match us, hl with | [_], _ => rfl,
    f_is_value, _, (fun_mk (st := s_is_value) l_is_value e_is_value k_is_value), PySem.W.mg_of X G a_is_value, ((fun_mk (st := s_is_value) l_is_value e_is_value k_is_value)).binds (ps := ["value"]) fun _ _ _ _ _ _ us hl => match us, hl with | [_], _ => rfl,
    f_is_command, _, (fun_mk (st := s_is_command) l_is_command e_is_command k_is_command), PySem.W.mg_of X G a_is_command, ((fun_mk (st := s_is_command) l_is_command e_is_command k_is_command)).binds (ps := ["value"]) fun _ _ _ _ _ _ us hl => match us, hl with | [_], _ => rfl,
    f_is_try, _, (fun_mk (st := s_is_try) l_is_try e_is_try k_is_try), PySem.W.mg_of X G a_is_try, ((fun_mk (st := s_is_try) l_is_try e_is_try k_is_try)).binds (ps := ["value"]) fun _ _ _ _ _ _ us hl => match us, hl with | [_], _ => rfl,
    f_parts_of, _, (fun_mk (st := s_parts_of) l_parts_of e_parts_of k_parts_of), PySem.W.mg_of X G a_parts_of, ((fun_mk (st := s_parts_of) l_parts_of e_parts_of k_parts_of)).binds (ps := ["value", "depth"]) fun _ _ _ _ _ _ us hl => match us, hl with | [_, _], _ => rfl,
    f_is_program, _, (fun_mk (st := s_is_program) l_is_program e_is_program k_is_program), PySem.W.mg_of X G a_is_program, ((fun_mk (st := s_is_program) l_is_program e_is_program k_is_program)).binds (ps := ["value"]) fun _ _ _ _ _ _ us hl => match us, hl with | [_], _ => rfl,
    f_l_deck, _, (fun_mk (st := s_l_deck) l_l_deck e_l_deck k_l_deck), PySem.W.mg_of X G a_l_deck, ((fun_mk (st := s_l_deck) l_l_deck e_l_deck k_l_deck)).binds (ps := ["_law_script"]) fun _ _ _ _ _ _ us hl => match us, hl with | [_], _ => rfl,
    f_l_draw, _, (fun_mk (st := s_l_draw) l_l_draw e_l_draw k_l_draw), PySem.W.mg_of X G a_l_draw, ((fun_mk (st := s_l_draw) l_l_draw e_l_draw k_l_draw)).binds (ps := ["_law_deck_here", "_law_many"]) fun _ _ _ _ _ _ us hl => match us, hl with | [_, _], _ => rfl,
    f_l_pick, _, (fun_mk (st := s_l_pick) l_l_pick e_l_pick k_l_pick), PySem.W.mg_of X G a_l_pick, ((fun_mk (st := s_l_pick) l_l_pick e_l_pick k_l_pick)).binds (ps := ["_law_deck_here", "_law_some"]) fun _ _ _ _ _ _ us hl => match us, hl with | [_, _], _ => rfl,
    f_l_labels, _, (fun_mk (st := s_l_labels) l_l_labels e_l_labels k_l_labels), PySem.W.mg_of X G a_l_labels, ((fun_mk (st := s_l_labels) l_l_labels e_l_labels k_l_labels)).binds (ps := ["_law_deck_here", "_law_many"]) fun _ _ _ _ _ _ us hl => match us, hl with | [_, _], _ => rfl,
    f_l_entry, _, (fun_mk (st := s_l_entry) l_l_entry e_l_entry k_l_entry), PySem.W.mg_of X G a_l_entry, ((fun_mk (st := s_l_entry) l_l_entry e_l_entry k_l_entry)).binds (ps := ["_law_deck_here"]) fun _ _ _ _ _ _ us hl => match us, hl with | [_], _ => rfl,
    f_l_command, _, (fun_mk (st := s_l_command) l_l_command e_l_command k_l_command), PySem.W.mg_of X G a_l_command, ((fun_mk (st := s_l_command) l_l_command e_l_command k_l_command)).binds (ps := ["_law_deck_here", "_law_keys", "_law_labels_here"]) fun _ _ _ _ _ _ us hl => match us, hl with | [_, _, _], _ => rfl,
    f_l_block, _, (fun_mk (st := s_l_block) l_l_block e_l_block k_l_block), PySem.W.mg_of X G a_l_block, ((fun_mk (st := s_l_block) l_l_block e_l_block k_l_block)).binds (ps := ["_law_deck_here", "_law_keys", "_law_labels_here", "_law_room", "_law_depth"]) fun _ _ _ _ _ _ us hl => match us, hl with | [_, _, _, _, _], _ => rfl,
    f_l_whole, _, (fun_mk (st := s_l_whole) l_l_whole e_l_whole k_l_whole), PySem.W.mg_of X G a_l_whole, ((fun_mk (st := s_l_whole) l_l_whole e_l_whole k_l_whole)).binds (ps := ["_law_item"]) fun _ _ _ _ _ _ us hl => match us, hl with | [_], _ => rfl,
    f_l_label, _, (fun_mk (st := s_l_label) l_l_label e_l_label k_l_label), PySem.W.mg_of X G a_l_label, ((fun_mk (st := s_l_label) l_l_label e_l_label k_l_label)).binds (ps := ["_law_item"]) fun _ _ _ _ _ _ us hl => match us, hl with | [_], _ => rfl,
    f_l_is_command, _, (fun_mk (st := s_l_is_command) l_l_is_command e_l_is_command k_l_is_command), PySem.W.mg_of X G a_l_is_command, ((fun_mk (st := s_l_is_command) l_l_is_command e_l_is_command k_l_is_command)).binds (ps := ["_law_item"]) fun _ _ _ _ _ _ us hl => match us, hl with | [_], _ => rfl,
    f_l_counted, _, (fun_mk (st := s_l_counted) l_l_counted e_l_counted k_l_counted), PySem.W.mg_of X G a_l_counted, ((fun_mk (st := s_l_counted) l_l_counted e_l_counted k_l_counted)).binds (ps := ["_law_thing", "_law_depth"]) fun _ _ _ _ _ _ us hl => match us, hl with | [_, _], _ => rfl,
    f_l_due, _, (fun_mk (st := s_l_due) l_l_due e_l_due k_l_due), PySem.W.mg_of X G a_l_due, ((fun_mk (st := s_l_due) l_l_due e_l_due k_l_due)).binds (ps := ["_law_thing"]) fun _ _ _ _ _ _ us hl => match us, hl with | [_], _ => rfl,
    f_l_strange, _, (fun_mk (st := s_l_strange) l_l_strange e_l_strange k_l_strange), PySem.W.mg_of X G a_l_strange, ((fun_mk (st := s_l_strange) l_l_strange e_l_strange k_l_strange)).binds (ps := ["_law_deck_here"]) fun _ _ _ _ _ _ us hl => match us, hl with | [_], _ => rfl,
    f_l_bent, _, (fun_mk (st := s_l_bent) l_l_bent e_l_bent k_l_bent), PySem.W.mg_of X G a_l_bent, ((fun_mk (st := s_l_bent) l_l_bent e_l_bent k_l_bent)).binds (ps := ["_law_deck_here", "_law_thing"]) fun _ _ _ _ _ _ us hl => match us, hl with | [_, _], _ => rfl,
    f_l_nested, _, (fun_mk (st := s_l_nested) l_l_nested e_l_nested k_l_nested), PySem.W.mg_of X G a_l_nested, ((fun_mk (st := s_l_nested) l_l_nested e_l_nested k_l_nested)).binds (ps := ["_law_depth"]) fun _ _ _ _ _ _ us hl => match us, hl with | [_], _ => rfl,
    fa, _, (fun_mk (st := s_law) l_law e_law k_law), PySem.W.mg_of X G a_law, ((fun_mk (st := s_law) l_law e_law k_law)).binds (ps := ["_law_script"]) fun _ _ _ _ _ _ us hl => match us, hl with | [_], _ => rfl⟩, rfl, rfl⟩
  obtain ⟨T, e1, e2⟩ := T
  refine ⟨PySem.W.fnOf "law" "law" (defArgs s_law) (defBody s_law) (defScope s_law) .none kV_law dc_law pm_law an_law cd_law ct_law, fun s u => .of_eq rfl, fun base _ _ => ?_⟩
  have q := ok_law (P := P) (w := w) (base := base) T holds
  rw [e1, e2] at q
  exact q
end
end Q42
open PySem PySem.W PyProof.Rows
set_option maxHeartbeats 0 in
theorem PySem.Challenge.cw_rewindplan_k42_programs_known_holds : PySem.Challenge.rw_rewindplan_k42_programs_known.Holds := by
  w_on; o_law; k_head; (case hw => w_witness2)
  k_fill
  refine PL.law_end (l := PySem.Challenge.rw_rewindplan_k42_programs_known) (k := 14) (x := "_law_script") rfl rfl ⟨rfl, by decide, by decide⟩ (fun w h Y => PySem.W.kIn_of Y) ?F
  case F =>
    intro w mg fa h KX G hmg
    refine' Q42.fin KX G Q42.holds hmg ?z_abs ?z_all ?z_bool ?z_int ?z_isinstance ?z_len ?z_list ?z_range ?z_repr ?z_str ?z_sum ?z_tuple ?c_BACK ?c_DEEPEST_TRY ?c_DEL ?c_GREATEST_VALUE ?c_KEEP ?c_LETTERS ?c_LONGEST_WORD ?c_MARK ?c_MOST_TRIED_COMMANDS ?c_MOST_TRIES ?c_SET ?c_TRY ?a_is_integer ?l_is_integer ?e_is_integer ?k_is_integer ?a_is_between ?l_is_between ?e_is_between ?k_is_between ?a_is_word ?l_is_word ?e_is_word ?k_is_word ?a_is_value ?l_is_value ?e_is_value ?k_is_value ?a_is_command ?l_is_command ?e_is_command ?k_is_command ?a_is_try ?l_is_try ?e_is_try ?k_is_try ?a_parts_of ?l_parts_of ?e_parts_of ?k_parts_of ?a_is_program ?l_is_program ?e_is_program ?k_is_program ?a_l_deck ?l_l_deck ?e_l_deck ?k_l_deck ?a_l_draw ?l_l_draw ?e_l_draw ?k_l_draw ?a_l_pick ?l_l_pick ?e_l_pick ?k_l_pick ?a_l_labels ?l_l_labels ?e_l_labels ?k_l_labels ?a_l_entry ?l_l_entry ?e_l_entry ?k_l_entry ?a_l_command ?l_l_command ?e_l_command ?k_l_command ?a_l_block ?l_l_block ?e_l_block ?k_l_block ?a_l_whole ?l_l_whole ?e_l_whole ?k_l_whole ?a_l_label ?l_l_label ?e_l_label ?k_l_label ?a_l_is_command ?l_l_is_command ?e_l_is_command ?k_l_is_command ?a_l_counted ?l_l_counted ?e_l_counted ?k_l_counted ?a_l_due ?l_l_due ?e_l_due ?k_l_due ?a_l_strange ?l_l_strange ?e_l_strange ?k_l_strange ?a_l_bent ?l_l_bent ?e_l_bent ?k_l_bent ?a_l_nested ?l_l_nested ?e_l_nested ?k_l_nested ?a_law ?l_law ?e_law ?k_law
    (case z_abs => k_is)
    (case z_all => k_is)
    (case z_bool => k_is)
    (case z_int => k_is)
    (case z_isinstance => k_is)
    (case z_len => k_is)
    (case z_list => k_is)
    (case z_range => k_is)
    (case z_repr => k_is)
    (case z_str => k_is)
    (case z_sum => k_is)
    (case z_tuple => k_is)
    (case c_BACK => k_is)
    (case c_DEEPEST_TRY => k_is)
    (case c_DEL => k_is)
    (case c_GREATEST_VALUE => k_is)
    (case c_KEEP => k_is)
    (case c_LETTERS => k_is)
    (case c_LONGEST_WORD => k_is)
    (case c_MARK => k_is)
    (case c_MOST_TRIED_COMMANDS => k_is)
    (case c_MOST_TRIES => k_is)
    (case c_SET => k_is)
    (case c_TRY => k_is)
    (case a_is_integer => k_is)
    (case l_is_integer => k_is)
    (case e_is_integer => k_is)
    (case k_is_integer => k_is)
    (case a_is_between => k_is)
    (case l_is_between => k_is)
    (case e_is_between => k_is)
    (case k_is_between => k_is)
    (case a_is_word => k_is)
    (case l_is_word => k_is)
    (case e_is_word => k_is)
    (case k_is_word => k_is)
    (case a_is_value => k_is)
    (case l_is_value => k_is)
    (case e_is_value => k_is)
    (case k_is_value => k_is)
    (case a_is_command => k_is)
    (case l_is_command => k_is)
    (case e_is_command => k_is)
    (case k_is_command => k_is)
    (case a_is_try => k_is)
    (case l_is_try => k_is)
    (case e_is_try => k_is)
    (case k_is_try => k_is)
    (case a_parts_of => k_is)
    (case l_parts_of => k_is)
    (case e_parts_of => k_is)
    (case k_parts_of => k_is)
    (case a_is_program => k_is)
    (case l_is_program => k_is)
    (case e_is_program => k_is)
    (case k_is_program => k_is)
    (case a_l_deck => k_is)
    (case l_l_deck => k_is)
    (case e_l_deck => k_is)
    (case k_l_deck => k_is)
    (case a_l_draw => k_is)
    (case l_l_draw => k_is)
    (case e_l_draw => k_is)
    (case k_l_draw => k_is)
    (case a_l_pick => k_is)
    (case l_l_pick => k_is)
    (case e_l_pick => k_is)
    (case k_l_pick => k_is)
    (case a_l_labels => k_is)
    (case l_l_labels => k_is)
    (case e_l_labels => k_is)
    (case k_l_labels => k_is)
    (case a_l_entry => k_is)
    (case l_l_entry => k_is)
    (case e_l_entry => k_is)
    (case k_l_entry => k_is)
    (case a_l_command => k_is)
    (case l_l_command => k_is)
    (case e_l_command => k_is)
    (case k_l_command => k_is)
    (case a_l_block => k_is)
    (case l_l_block => k_is)
    (case e_l_block => k_is)
    (case k_l_block => k_is)
    (case a_l_whole => k_is)
    (case l_l_whole => k_is)
    (case e_l_whole => k_is)
    (case k_l_whole => k_is)
    (case a_l_label => k_is)
    (case l_l_label => k_is)
    (case e_l_label => k_is)
    (case k_l_label => k_is)
    (case a_l_is_command => k_is)
    (case l_l_is_command => k_is)
    (case e_l_is_command => k_is)
    (case k_l_is_command => k_is)
    (case a_l_counted => k_is)
    (case l_l_counted => k_is)
    (case e_l_counted => k_is)
    (case k_l_counted => k_is)
    (case a_l_due => k_is)
    (case l_l_due => k_is)
    (case e_l_due => k_is)
    (case k_l_due => k_is)
    (case a_l_strange => k_is)
    (case l_l_strange => k_is)
    (case e_l_strange => k_is)
    (case k_l_strange => k_is)
    (case a_l_bent => k_is)
    (case l_l_bent => k_is)
    (case e_l_bent => k_is)
    (case k_l_bent => k_is)
    (case a_l_nested => k_is)
    (case l_l_nested => k_is)
    (case e_l_nested => k_is)
    (case k_l_nested => k_is)
    (case a_law => k_is)
    (case l_law => k_is)
    (case e_law => k_is)
    (case k_law => k_is)

