import PyProof.Rows.All
import HandS.ForMost
import HandS.EndBits
import HandS.Exc
import HandS.ExcOwn
import HandS.WordsExc
import HandS.TupAny
import HandS.Flow
import HandS.Lambda
import HandS.TupMul
import HandS.IsInst
import HandS.Text
import HandS.Style
import HandS.Conv
import HandS.Wide
import HandS.NoneIn
import HandS.Iter
import HandS.Comp
import HandS.Dict
import KE.GoesMore
import HandS.More
import PyProof.DictDisplay
import PyProof.DictUpdate
import KE.KDictPairs
import HandS.SortRule
import PyProof.Rows.SortKeyStr
import HandS.Zip
import HandS.ListItems
import KE.KExcInit
import HandS.ExcInit
import HandS.ExcIs
import HandS.ExcField
import KE.KTryMore
import HandS.ExcValue
import KE.KExcIs
import HandS.EndTab
import KE.DataFind
import HandS.Deep
import HandS.RaiseMore
import HandS.SortKw
import KE.DataMinMax
import PyProof.Rows.TupReads
import PyProof.Rows.Shapes
import HandS.List
import HandS.Star
import HandS.Property
import HandS.ClsMeth
import HandS.Defaults
import KE.KUnpackStar
import KE.GoesEnumKw
import PySem.Challenge.RW_rewindplan_k82_programs_read
set_option Elab.async false
set_option linter.all false
set_option maxRecDepth 100000
/-! A layer over the hand layer: values as data, names as data, one rule a construct; what a def does is a function over data (W: a wish transformer). -/
namespace PL
open PySem PySem.Spec PyProof.Rows L2

/-- data -/
inductive D where
  | non | bl (b : Bool) | int (i : Int) | str (x : Str) | lst (xs : List D) | tup (xs : List D) | dic (kvs : List (Key × D)) | ins (c f : Str) (x : D)

/-- data, or an object that is changed: a list, a dict -/
inductive Ob where
  | d (x : D) | o (a : Addr)
inductive Nd where
  | lst (xs : List Ob) | dic (kvs : List (Key × Ob))
/-- how many draws there were at most; what the objects hold that are changed -/
structure Nt where
  n : Nat
  μ : Addr → Option Nd

/-- an error: its class's name, its fields -/
abbrev Exc := Str × List (Str × D)

abbrev n0 : Nt := ⟨0, fun _ => none⟩
abbrev W (α : Type) := Nt → (α → Nt → Prop) → (Exc → Nt → Prop) → Prop
section
variable {α β : Type}
def ret (a : α) : W α := fun n P _ => P a n
def bnd (m : W α) (f : α → W β) : W β := fun n P X => m n (fun a k => f a k P X) X
def stuck : W α := fun _ _ _ => False
def rse (e : Exc) : W α := fun n _ X => X e n
def grd (p : Prop) (m : W α) : W α := fun n P X => p ∧ m n P X
end

/-- what a name holds: nothing yet, data that stays, a list or dict of the def's own, the source of draws, an error that was caught, a lambda (its object, its code, its maker's names, what of them is data) -/
inductive SV where
  | un | d (x : D) | own (xs : List D) | ownK (kvs : List (Key × D)) | pen | exc (x : Exc) | lam (f c : Addr) (q : Str) (σ : L2.St) (ds : List (Option D)) | o (a : Addr)
abbrev Env := List SV
def SV.isOwn : SV → Bool
  | .own _ => true
  | .ownK _ => true
  | _ => false
def SV.bor : SV → SV
  | .own xs => .d (.lst xs)
  | .ownK kvs => .d (.dic kvs)
  | s => s
def bor (ρ : Env) : Env := ρ.map SV.bor

/-- a tuple of the written part -/
def WrT (K : PySem.W.Frag) (a : Addr) (xs : List V) : Prop :=
  ∃ (o : Obj) (its : Array Value) (n : Nat), K.lookup a = some o ∧ o.cls = .type "tuple" ∧ o.dict = none ∧ o.data = .seq its n ∧ its.size ≤ sizeLine ∧ Vals xs its.toList
def RdL (S : Addr → Prop) (H : Hp) (a : Addr) (xs : List V) : Prop := S a ∧ H a = some (.lst xs)
/-- a tuple without a dict of its own -/
def PlT (H : Hp) (a : Addr) (xs : List V) : Prop := ∃ o, H a = some (.frz o (.tup xs)) ∧ o.dict = none
def RdT (K : PySem.W.Frag) (S : Addr → Prop) (H : Hp) (a : Addr) (xs : List V) : Prop := (S a ∧ PlT H a xs) ∨ WrT K a xs

/-- an own class whose instances have one field that is never changed -/
structure InsC (K : PySem.W.Frag) (c f : Str) (C : Addr) : Prop where
  at_ : PySem.W.nsIn K mainGlobals c = some (some (.ref C))
  cls : Cls K C
  no : NoAttr K C f
  ca : PySem.W.findIn K (.ref C) "__class__" = some (some (.builtin "object.__class__"))
  cn : PySem.W.specialIn K (.builtin "object.__class__") "__get__" = some (some (.builtin "getset_descriptor.__get__"))
  ct : PySem.W.takesIn K (.builtin "object.__class__") = some true
  cm : PySem.W.mroIn K C (.type "object") = some true
  kit : ∀ T ∈ ["int", "bool", "str", "tuple", "list", "dict"], PySem.W.kitOne K (.ref C) (.type T) = some false
mutual
def Rep (K : PySem.W.Frag) (S : Addr → Prop) (H : Hp) : D → V → Prop
  | .non, v => v = .non
  | .bl b, v => v = .bl b
  | .int i, v => v = .int i
  | .str x, v => v = .str x ∧ x.length ≤ sizeLine
  | .lst xs, v => ∃ a vs, v = .ref a ∧ RdL S H a vs ∧ xs.length ≤ sizeLine ∧ Reps K S H xs vs
  | .tup xs, v => ∃ a vs, v = .ref a ∧ RdT K S H a vs ∧ xs.length ≤ sizeLine ∧ Reps K S H xs vs
  | .dic kvs, v => ∃ a kws, v = .ref a ∧ (S a ∧ Rd H a (.dK kws)) ∧ RepK K S H kvs kws
  | .ins c f x, v => ∃ a C dx w, v = .ref a ∧ InsC K c f C ∧ (S a ∧ H a = some (.ins C dx [(f, w)])) ∧ Rep K S H x w
def Reps (K : PySem.W.Frag) (S : Addr → Prop) (H : Hp) : List D → List V → Prop
  | [], vs => vs = []
  | x :: xs, vs => ∃ v ws, vs = v :: ws ∧ Rep K S H x v ∧ Reps K S H xs ws
def RepK (K : PySem.W.Frag) (S : Addr → Prop) (H : Hp) : List (Key × D) → List (Key × V) → Prop
  | [], vs => vs = []
  | (k, x) :: xs, vs => ∃ v ws, vs = (k, v) :: ws ∧ Rep K S H x v ∧ RepK K S H xs ws
end

/-- what stays -/
structure Grow (S S' : Addr → Prop) (H H' : Hp) : Prop where
  sub : ∀ a, S a → S' a
  eq : ∀ a, S a → H' a = H a
theorem Grow.refl {S : Addr → Prop} {H : Hp} : Grow S S H H := ⟨fun _ h => h, fun _ _ => rfl⟩
theorem Grow.trans {S S1 S2 : Addr → Prop} {H H1 H2 : Hp} (a : Grow S S1 H H1) (b : Grow S1 S2 H1 H2) : Grow S S2 H H2 :=
  ⟨fun x h => b.sub x (a.sub x h), fun x h => (b.eq x (a.sub x h)).trans (a.eq x h)⟩

section
variable {K : PySem.W.Frag} {S S' : Addr → Prop} {H H' : Hp}
theorem Rd.to {a : Addr} {u : HO} (e : H' a = H a) (h : Rd H a u) : Rd H' a u := by
  unfold Rd at *
  rw [e]
  exact h
theorem RdL.grow {a : Addr} {xs : List V} (g : Grow S S' H H') (h : RdL S H a xs) : RdL S' H' a xs := ⟨g.sub a h.1, (g.eq a h.1).trans h.2⟩
theorem RdT.grow {a : Addr} {xs : List V} (g : Grow S S' H H') (h : RdT K S H a xs) : RdT K S' H' a xs :=
  h.elim (fun ⟨z, o, e, d⟩ => .inl ⟨g.sub a z, o, (g.eq a z).trans e, d⟩) .inr
theorem RdL.sq {a : Addr} {xs : List V} (h : RdL S H a xs) : SqL K H a xs := .inl (.inl h.2)
theorem RdT.sq {a : Addr} {xs : List V} (h : RdT K S H a xs) : SqT K H a xs := h.elim (fun ⟨_, o, e, _⟩ => .inl (.inr ⟨o, e⟩)) fun ⟨o, its, n, h1, h2, _, h3⟩ => .inr ⟨o, its, n, h1, h2, h3⟩
mutual
theorem Rep.grow (g : Grow S S' H H') : ∀ (d : D) (v : V), Rep K S H d v → Rep K S' H' d v
  | .non, _, h => h
  | .bl _, _, h => h
  | .int _, _, h => h
  | .str _, _, h => h
  | .lst xs, _, h => by
    obtain ⟨a, vs, e, r, z, q⟩ := h
    exact ⟨a, vs, e, r.grow g, z, Reps.grow g xs vs q⟩
  | .tup xs, _, h => by
    obtain ⟨a, vs, e, r, z, q⟩ := h
    exact ⟨a, vs, e, r.grow g, z, Reps.grow g xs vs q⟩
  | .dic kvs, _, h => by
    obtain ⟨a, kws, e, ⟨r, r2⟩, q⟩ := h
    exact ⟨a, kws, e, ⟨g.sub a r, Rd.to (g.eq a r) r2⟩, RepK.grow g kvs kws q⟩
  | .ins _ _ x, _, h => by
    obtain ⟨a, C, dx, w, e, i, ⟨r, r2⟩, q⟩ := h
    exact ⟨a, C, dx, w, e, i, ⟨g.sub a r, (g.eq a r).trans r2⟩, Rep.grow g x w q⟩
theorem Reps.grow (g : Grow S S' H H') : ∀ (xs : List D) (vs : List V), Reps K S H xs vs → Reps K S' H' xs vs
  | [], _, h => h
  | x :: xs, _, h => by
    obtain ⟨v, ws, e, r, q⟩ := h
    exact ⟨v, ws, e, Rep.grow g x v r, Reps.grow g xs ws q⟩
theorem RepK.grow (g : Grow S S' H H') : ∀ (xs : List (Key × D)) (vs : List (Key × V)), RepK K S H xs vs → RepK K S' H' xs vs
  | [], _, h => h
  | (k, x) :: xs, _, h => by
    obtain ⟨v, ws, e, r, q⟩ := h
    exact ⟨v, ws, e, Rep.grow g x v r, RepK.grow g xs ws q⟩
end
theorem Reps.len : ∀ {xs : List D} {vs : List V}, Reps K S H xs vs → vs.length = xs.length
  | [], _, h => by
    have e : _ = [] := h
    rw [e]
    rfl
  | _ :: xs, _, h => by
    obtain ⟨v, ws, rfl, _, q⟩ := h
    show ws.length + 1 = xs.length + 1
    rw [Reps.len q]
theorem Reps.get : ∀ {xs : List D} {vs : List V} {i : Nat} {v : V}, Reps K S H xs vs → vs[i]? = some v → ∃ x, xs[i]? = some x ∧ Rep K S H x v
  | [], _, i, v, h, e => by
    have e1 : _ = [] := h
    rw [e1] at e
    cases e
  | x :: xs, _, 0, v, h, e => by
    obtain ⟨w, ws, rfl, r, _⟩ := h
    cases e
    exact ⟨x, rfl, r⟩
  | x :: xs, _, i + 1, v, h, e => by
    obtain ⟨w, ws, rfl, _, q⟩ := h
    exact Reps.get (i := i) q e
theorem Reps.at : ∀ {xs : List D} {vs : List V} {i : Nat} {x : D}, Reps K S H xs vs → xs[i]? = some x → ∃ v, vs[i]? = some v ∧ Rep K S H x v
  | [], _, i, x, h, e => by cases e
  | y :: xs, _, 0, x, h, e => by
    obtain ⟨w, ws, rfl, r, _⟩ := h
    cases e
    exact ⟨w, rfl, r⟩
  | y :: xs, _, i + 1, x, h, e => by
    obtain ⟨w, ws, rfl, _, q⟩ := h
    exact Reps.at (i := i) q e
theorem Reps.app : ∀ {xs ys : List D} {vs ws : List V}, Reps K S H xs vs → Reps K S H ys ws → Reps K S H (xs ++ ys) (vs ++ ws)
  | [], ys, vs, ws, h, q => by
    have e : vs = [] := h
    rw [e]
    exact q
  | x :: xs, ys, vs, ws, h, q => by
    obtain ⟨v, us, rfl, r, t⟩ := h
    exact ⟨v, us ++ ws, rfl, r, Reps.app t q⟩
theorem Reps.one {x : D} {v : V} (r : Rep K S H x v) : Reps K S H [x] [v] := ⟨v, [], rfl, r, rfl⟩
theorem Reps.nil : Reps K S H [] [] := rfl
theorem Reps.cons {x : D} {v : V} {xs : List D} {vs : List V} (r : Rep K S H x v) (q : Reps K S H xs vs) : Reps K S H (x :: xs) (v :: vs) := ⟨v, vs, rfl, r, q⟩
theorem Reps.drop : ∀ (n : Nat) {xs : List D} {vs : List V}, Reps K S H xs vs → Reps K S H (xs.drop n) (vs.drop n)
  | 0, _, _, h => h
  | n + 1, [], vs, h => by
    have e : vs = [] := h
    rw [e]
    rfl
  | n + 1, x :: xs, _, h => by
    obtain ⟨v, us, rfl, _, t⟩ := h
    exact Reps.drop n t
theorem Reps.take : ∀ (n : Nat) {xs : List D} {vs : List V}, Reps K S H xs vs → Reps K S H (xs.take n) (vs.take n)
  | 0, _, _, h => rfl
  | n + 1, [], vs, h => by
    have e : vs = [] := h
    rw [e]
    rfl
  | n + 1, x :: xs, _, h => by
    obtain ⟨v, us, rfl, r, t⟩ := h
    exact ⟨v, us.take n, rfl, r, Reps.take n t⟩
theorem Reps.set : ∀ (i : Nat) {xs : List D} {vs : List V} {x : D} {v : V}, Reps K S H xs vs → Rep K S H x v → Reps K S H (xs.set i x) (vs.set i v)
  | _, [], vs, x, v, h, _ => by
    have e : vs = [] := h
    rw [e]
    rfl
  | 0, y :: xs, _, x, v, h, r => by
    obtain ⟨w, us, rfl, _, t⟩ := h
    exact ⟨v, us, rfl, r, t⟩
  | i + 1, y :: xs, _, x, v, h, r => by
    obtain ⟨w, us, rfl, q, t⟩ := h
    exact ⟨w, us.set i v, rfl, q, Reps.set i t r⟩
end

/-- the source of draws: what its two objects hold after at most n draws; the tables of code objects (with the name of the code in them); the module's names -/
structure PenK where
  inv : Hp → Addr → Addr → Nat → Prop
  dep : ∀ {H H' : Hp} {a b : Addr} {n : Nat}, inv H a b n → H' a = H a → H' b = H b → inv H' a b n
  there : ∀ {H : Hp} {a b : Addr} {n : Nat}, inv H a b n → H a ≠ none ∧ H b ≠ none
  isL : ∀ {H : Hp} {a b : Addr} {n : Nat}, inv H a b n → (∃ xs, H a = some (.lst xs)) ∧ ∃ xs, H b = some (.lst xs)
  tab : List (Addr × Str) := []
  mg : Str → Option Value := fun _ => none
  chg : Bool := false

/-- an error as it lies in the heap -/
def RepX (K : PySem.W.Frag) (mg : Str → Option Value) (S : Addr → Prop) (H : Hp) (x : Exc) (cls : Value) (dd : Option Addr) : Prop :=
  ∃ A : Addr, mg x.1 = some (.ref A) ∧ cls = .ref A ∧ ((x.2 = [] ∧ dd = none) ∨ ∃ d fv, dd = some d ∧ S d ∧ H d = some (.xd fv) ∧ Paired (fun (p : Str × D) (q : Str × V) => p.1 = q.1 ∧ Rep K S H p.2 q.2) x.2 fv)
theorem repX_pair {K : PySem.W.Frag} {S S' : Addr → Prop} {H H' : Hp} (f : ∀ d v, Rep K S H d v → Rep K S' H' d v) : ∀ {xs : List (Str × D)} {fv : List (Str × V)}, Paired (fun (p : Str × D) (q : Str × V) => p.1 = q.1 ∧ Rep K S H p.2 q.2) xs fv → Paired (fun (p : Str × D) (q : Str × V) => p.1 = q.1 ∧ Rep K S' H' p.2 q.2) xs fv
  | _, _, .nil => .nil
  | _, _, .cons h t => .cons ⟨h.1, f _ _ h.2⟩ (repX_pair f t)
theorem RepX.grow {K : PySem.W.Frag} {mg : Str → Option Value} {S S' : Addr → Prop} {H H' : Hp} {x : Exc} {cls : Value} {dd : Option Addr} (g : Grow S S' H H') (h : RepX K mg S H x cls dd) : RepX K mg S' H' x cls dd := by
  obtain ⟨A, h1, h2, h3⟩ := h
  refine ⟨A, h1, h2, h3.imp id fun ⟨d, fv, e, hs, hd, p⟩ => ⟨d, fv, e, g.sub d hs, (g.eq d hs).trans hd, repX_pair (fun d v r => Rep.grow g d v r) p⟩⟩
/-- an error object that was caught -/
def ErrO (cls : Value) (dd : Option Addr) (a : Addr) : HO := .ext fun h => ∃ (oe : Obj) (vs : Array Value), h.get? a = some oe ∧ Zc cls dd oe ∧ oe.data = .fields vs
/-- a table of code objects: those that it tells stay -/
def TabI (S : Addr → Prop) (H : Hp) (P : Addr) (q : Str) : Prop := ∃ ps : Array Value, H P = some (.tbl ps) ∧ TriplesOk ps.toList ∧ ∀ (pos : Pos) (cv : Value), codeAmong pos ps.toList = some cv → ∃ c, cv = .ref c ∧ S c ∧ H c = some (LamX.CodeO c q)
theorem TabI.grow {S S' : Addr → Prop} {H H' : Hp} {P : Addr} {q : Str} (g : Grow S S' H H') (e : H' P = H P) (h : TabI S H P q) : TabI S' H' P q := by
  obtain ⟨ps, h1, h2, h3⟩ := h
  refine ⟨ps, e.trans h1, h2, fun pos cv z => ?_⟩
  obtain ⟨c, e1, e2, e3⟩ := h3 pos cv z
  exact ⟨c, e1, g.sub c e2, (g.eq c e2).trans e3⟩
theorem TabI.there {S : Addr → Prop} {H : Hp} {P : Addr} {q : Str} (h : TabI S H P q) : H P ≠ none := by
  obtain ⟨ps, h1, _⟩ := h
  rw [h1]
  exact fun z => nomatch z
/-- what a lambda's body may read -/
def LamOk (K : PySem.W.Frag) (S : Addr → Prop) (H : Hp) (c : Addr) (q : Str) (σ : L2.St) (ds : List (Option D)) : Prop :=
  S c ∧ H c = some (LamX.CodeO c q) ∧ ds.length = σ.length ∧ ∀ (i : Nat) (x : D), ds[i]? = some (some x) → ∃ v, (σ[i]?).join = some v ∧ Rep K S H x v
theorem LamOk.grow {K : PySem.W.Frag} {S S' : Addr → Prop} {H H' : Hp} {c : Addr} {q : Str} {σ : L2.St} {ds : List (Option D)} (g : Grow S S' H H') (h : LamOk K S H c q σ ds) : LamOk K S' H' c q σ ds := by
  obtain ⟨h1, h2, h3, h4⟩ := h
  refine ⟨g.sub c h1, (g.eq c h1).trans h2, h3, fun i x e => ?_⟩
  obtain ⟨v, e1, r⟩ := h4 i x e
  exact ⟨v, e1, Rep.grow g x v r⟩

def D.sc : D → Bool
  | .non => true
  | .bl _ => true
  | .int _ => true
  | .str _ => true
  | _ => false
theorem Rep.sc {K : PySem.W.Frag} {S S' : Addr → Prop} {H H' : Hp} {d : D} {v : V} (h : d.sc = true) (r : Rep K S H d v) : Rep K S' H' d v := by
  cases d <;> first | exact r | cases h
/-- data in an object that is changed: without parts -/
def RepO (K : PySem.W.Frag) (S : Addr → Prop) (H : Hp) : Ob → V → Prop
  | .d x, v => x.sc = true ∧ Rep K S H x v
  | .o a, v => v = .ref a
theorem RepO.move {K : PySem.W.Frag} {S S' : Addr → Prop} {H H' : Hp} {x : Ob} {v : V} (h : RepO K S H x v) : RepO K S' H' x v := by
  cases x with
  | d x => exact ⟨h.1, h.2.sc h.1⟩
  | o a => exact h
/-- what an object that is changed holds -/
def NdOk (K : PySem.W.Frag) (S : Addr → Prop) (H : Hp) (a : Addr) : Nd → Prop
  | .lst xs => ∃ vs, H a = some (.lst vs) ∧ xs.length ≤ sizeLine ∧ Paired (RepO K S H) xs vs
  | .dic kvs => ∃ kws, H a = some (.dK kws) ∧ Paired (fun (p : Key × Ob) (q : Key × V) => p.1 = q.1 ∧ RepO K S H p.2 q.2) kvs kws
theorem paired_imp {α β : Type} {r s : α → β → Prop} (f : ∀ a b, r a b → s a b) : ∀ {xs : List α} {ys : List β}, Paired r xs ys → Paired s xs ys
  | _, _, .nil => .nil
  | _, _, .cons h t => .cons (f _ _ h) (paired_imp f t)
theorem NdOk.move {K : PySem.W.Frag} {S S' : Addr → Prop} {H H' : Hp} {a : Addr} {nd : Nd} (e : H' a = H a) (h : NdOk K S H a nd) : NdOk K S' H' a nd := by
  cases nd with
  | lst xs => obtain ⟨vs, e1, z, r⟩ := h; exact ⟨vs, e.trans e1, z, paired_imp (fun _ _ h => h.move) r⟩
  | dic kvs => obtain ⟨kws, e1, r⟩ := h; exact ⟨kws, e.trans e1, paired_imp (fun _ _ h => ⟨h.1, h.2.move⟩) r⟩
theorem NdOk.grow {K : PySem.W.Frag} {S S' : Addr → Prop} {H H' : Hp} {a : Addr} {nd : Nd} (g : Grow S S' H H') (e : H' a = H a) (h : NdOk K S H a nd) : NdOk K S' H' a nd := h.move e
theorem NdOk.there {K : PySem.W.Frag} {S : Addr → Prop} {H : Hp} {a : Addr} {nd : Nd} (h : NdOk K S H a nd) : H a ≠ none := by
  cases nd with
  | lst xs => obtain ⟨vs, e1, _⟩ := h; rw [e1]; exact fun z => nomatch z
  | dic kvs => obtain ⟨kws, e1, _⟩ := h; rw [e1]; exact fun z => nomatch z
/-- the ghost: what stays, the heap at the entry, the source of draws, what is never among what stays -/
structure C where
  S : Addr → Prop
  H0 : Hp
  pen : Option (Addr × Addr)
  no : Addr → Prop
  mu : Addr → Prop := fun _ => False
/-- the source of draws and the tables -/
def PenK.pent (G : PenK) (c : C) (a : Addr) : Prop := (∃ p, c.pen = some p ∧ (a = p.1 ∨ a = p.2)) ∨ ∃ q ∈ G.tab, a = q.1
/-- what may be changed beneath the frame -/
def PenK.pens (G : PenK) (c : C) (a : Addr) : Prop := G.pent c a ∨ c.mu a
abbrev C.to (c : C) (S' : Addr → Prop) : C := { c with S := S' }
def Young (c : C) (n : Nt) (a : Addr) : Prop := ¬ c.S a ∧ c.H0 a = none ∧ n.μ a = none
def slot (σ : L2.St) (i : Nat) : Option V := (σ[i]?).join

def SlotOk (G : PenK) (K : PySem.W.Frag) (c : C) (H : Hp) : SV → Option V → Prop
  | .un, _ => True
  | .d x, o => ∃ v, o = some v ∧ Rep K c.S H x v
  | .own xs, o => ∃ a vs, o = some (.ref a) ∧ H a = some (.lst vs) ∧ xs.length ≤ sizeLine ∧ Reps K c.S H xs vs
  | .ownK kvs, o => ∃ a kws, o = some (.ref a) ∧ H a = some (.dK kws) ∧ RepK K c.S H kvs kws
  | .pen, o => ∃ p, c.pen = some p ∧ o = some (.ref p.1)
  | .exc x, o => ∃ a cls dd, o = some (.ref a) ∧ c.S a ∧ H a = some (ErrO cls dd a) ∧ RepX K G.mg c.S H x cls dd
  | .lam f b q σ ds, o => o = some (.ref f) ∧ LamOk K c.S H b q σ ds
  | .o a, o => o = some (.ref a)

structure SI (G : PenK) (K : PySem.W.Frag) (c : C) (σ : L2.St) (H : Hp) (ρ : Env) (n : Nt) : Prop where
  len : ρ.length = σ.length
  slots : ∀ i sv, ρ[i]? = some sv → SlotOk G K c H sv (slot σ i)
  own : ∀ i sv a, ρ[i]? = some sv → sv.isOwn = true → slot σ i = some (.ref a) → Young c n a
  apart : ∀ i j sv sv' a, i ≠ j → ρ[i]? = some sv → ρ[j]? = some sv' → sv.isOwn = true → sv'.isOwn = true → slot σ i = some (.ref a) → slot σ j = some (.ref a) → False
  dom : ∀ a, c.S a → H a ≠ none
  fr : ∀ a o, c.H0 a = some o → ¬ G.pens c a → H a = some o
  pen : ∀ p, c.pen = some p → G.inv H p.1 p.2 n.n ∧ ¬ c.S p.1 ∧ ¬ c.S p.2 ∧ c.H0 p.1 ≠ none ∧ c.H0 p.2 ≠ none
  no : ∀ a, c.no a → ¬ c.S a ∧ c.H0 a ≠ none
  tab : ∀ q ∈ G.tab, c.no q.1 ∧ TabI c.S H q.1 q.2
  mu : ∀ a nd, n.μ a = some nd → NdOk K c.S H a nd ∧ ¬ c.S a ∧ (c.mu a ∨ c.H0 a = none) ∧ ¬ G.pent c a
  mu0 : ∀ a, c.mu a → n.μ a ≠ none ∧ c.H0 a ≠ none
  mz : G.chg = false → ∀ a, n.μ a = none

theorem slot_set_same {σ : L2.St} {i : Nat} {o : Option V} (h : i < σ.length) : slot (σ.set i o) i = o := by
  unfold slot
  rw [List.getElem?_set_self h]
  rfl
theorem slot_set_ne {σ : L2.St} {i j : Nat} {o : Option V} (h : i ≠ j) : slot (σ.set i o) j = slot σ j := by
  unfold slot
  rw [List.getElem?_set_ne h]
theorem slot_some {σ : L2.St} {i : Nat} {v : V} (h : slot σ i = some v) : σ[i]? = some (some v) := by
  unfold slot at h
  cases e : σ[i]? with
  | none => rw [e] at h; cases h
  | some o =>
    rw [e] at h
    have h2 : o = some v := h
    rw [h2]

section
variable {G : PenK} {K : PySem.W.Frag} {c : C} {σ : L2.St} {H H' : Hp} {ρ : Env} {n : Nt}
/-- what was new at the entry's heap is no source of draws -/
theorem SI.penOld (I : SI G K c σ H ρ n) {a : Addr} (h : c.H0 a = none) : ¬ G.pens c a := fun z => by
  rcases z with (⟨p, e, z⟩ | ⟨q, e, z⟩) | z
  · obtain ⟨_, _, _, h1, h2⟩ := I.pen p e
    rcases z with z | z
    · exact h1 (z ▸ h)
    · exact h2 (z ▸ h)
  · exact (I.no _ (I.tab q e).1).2 (z ▸ h)
  · exact (I.mu0 a z).2 h
/-- a table is none of what stays, nor new -/
theorem SI.tabN (I : SI G K c σ H ρ n) {q : Addr × Str} (h : q ∈ G.tab) : ¬ c.S q.1 ∧ c.H0 q.1 ≠ none ∧ H q.1 ≠ none := ⟨(I.no _ (I.tab q h).1).1, (I.no _ (I.tab q h).1).2, (I.tab q h).2.there⟩
/-- a free address is free at the entry too -/
theorem SI.freeOld (I : SI G K c σ H ρ n) {a : Addr} (h : H a = none) : c.H0 a = none := by
  cases e : c.H0 a with
  | none => rfl
  | some o =>
    by_cases hp : G.pens c a
    · rcases hp with (⟨p, e2, z⟩ | ⟨q, e2, z⟩) | z
      · obtain ⟨k1, k2⟩ := G.there (I.pen p e2).1
        rcases z with z | z
        · rw [z] at h; exact absurd h k1
        · rw [z] at h; exact absurd h k2
      · exact absurd (z ▸ h) (I.tabN e2).2.2
      · cases e : n.μ a with
        | none => exact absurd e (I.mu0 a z).1
        | some nd => exact absurd h (I.mu a nd e).1.there
    · have := I.fr a o e hp
      rw [h] at this
      cases this
theorem SI.freeM (I : SI G K c σ H ρ n) {a : Addr} (h : H a = none) : n.μ a = none := by
  cases e : n.μ a with
  | none => rfl
  | some nd => exact absurd h (I.mu a nd e).1.there
/-- what is changed is none of what stays -/
theorem SI.muS (I : SI G K c σ H ρ n) {a : Addr} (h : n.μ a ≠ none) : ¬ c.S a ∧ H a ≠ none := by
  obtain ⟨nd, e⟩ := Option.ne_none_iff_exists'.mp h
  exact ⟨(I.mu a nd e).2.1, (I.mu a nd e).1.there⟩
theorem SI.freeS (I : SI G K c σ H ρ n) {a : Addr} (h : H a = none) : ¬ c.S a := fun z => I.dom a z h
theorem SlotOk.grow {S' : Addr → Prop} (g : Grow c.S S' H H') {o : Option V} (ho : ∀ a, o = some (.ref a) → sv.isOwn = true → H' a = H a) (h : SlotOk G K c H sv o) : SlotOk G K (c.to S') H' sv o := by
  cases sv with
  | un => trivial
  | d x => obtain ⟨v, e, r⟩ := h; exact ⟨v, e, Rep.grow g x v r⟩
  | own xs => obtain ⟨a, vs, e, r, z, q⟩ := h; exact ⟨a, vs, e, (ho a e rfl).trans r, z, Reps.grow g xs vs q⟩
  | ownK kvs => obtain ⟨a, vs, e, r, q⟩ := h; exact ⟨a, vs, e, (ho a e rfl).trans r, RepK.grow g kvs vs q⟩
  | pen => exact h
  | exc x => obtain ⟨a, cls, dd, e, hs, ha, r⟩ := h; exact ⟨a, cls, dd, e, g.sub a hs, (g.eq a hs).trans ha, r.grow g⟩
  | lam f b q σ ds => exact ⟨h.1, h.2.grow g⟩
  | o a => exact h
/-- a new object is laid and stays -/
theorem SI.laid (I : SI G K c σ H ρ n) {p : Addr} {o : HO} (hp : H p = none) : SI G K (c.to fun a => c.S a ∨ a = p) σ (upd H p o) ρ n ∧ Grow c.S (fun a => c.S a ∨ a = p) H (upd H p o) := by
  have ne : ∀ a, H a ≠ none → a ≠ p := fun a h z => h (z ▸ hp)
  have g : Grow c.S (fun a => c.S a ∨ a = p) H (upd H p o) := ⟨fun _ h => .inl h, fun a h => upd_ne (ne a (I.dom a h))⟩
  refine ⟨⟨I.len, fun i sv e => (I.slots i sv e).grow g (fun a ea ho => upd_ne (ne a ?_)), fun i sv a e ho es => ?_, I.apart, fun a h => ?_, fun a u e hn => ?_, fun q e => ?_, fun a h => ⟨fun z => z.elim (I.no a h).1 fun z => (I.no a h).2 (z ▸ I.freeOld hp), (I.no a h).2⟩, fun q e => ⟨(I.tab q e).1, (I.tab q e).2.grow g (upd_ne (ne _ (I.tabN e).2.2))⟩, fun a nd e => ?_, I.mu0, I.mz⟩, g⟩
  · have h := I.slots i sv e
    cases sv with
    | own xs =>
      obtain ⟨b, vs, e1, r, _⟩ := h
      rw [e1] at ea
      cases ea
      rw [r]; exact fun z => nomatch z
    | ownK kvs =>
      obtain ⟨b, vs, e1, r, _⟩ := h
      rw [e1] at ea
      cases ea
      rw [r]; exact fun z => nomatch z
    | un => cases ho
    | d _ => cases ho
    | pen => cases ho
    | exc _ => cases ho
    | lam _ _ _ _ _ => cases ho
    | o _ => cases ho
  · obtain ⟨h1, h2⟩ := I.own i sv a e ho es
    refine ⟨fun z => z.elim h1 fun z => ?_, h2⟩
    have h := I.slots i sv e
    cases sv with
    | own xs =>
      obtain ⟨b, vs, e1, r, _⟩ := h
      rw [e1] at es
      cases es
      rw [z, hp] at r; cases r
    | ownK kvs =>
      obtain ⟨b, vs, e1, r, _⟩ := h
      rw [e1] at es
      cases es
      rw [z, hp] at r; cases r
    | un => cases ho
    | d _ => cases ho
    | pen => cases ho
    | exc _ => cases ho
    | lam _ _ _ _ _ => cases ho
    | o _ => cases ho
  · by_cases e : a = p
    · rw [e, upd_same]; exact fun z => nomatch z
    · rw [upd_ne e]
      exact I.dom a (h.resolve_right e)
  · have := I.fr a u e hn
    rw [upd_ne (ne a (by rw [this]; exact fun z => nomatch z))]
    exact this
  · obtain ⟨h1, h2, h3, h4, h5⟩ := I.pen q e
    obtain ⟨k1, k2⟩ := G.there h1
    exact ⟨G.dep h1 (upd_ne (ne _ k1)) (upd_ne (ne _ k2)), fun z => z.elim h2 (ne _ k1), fun z => z.elim h3 (ne _ k2), h4, h5⟩
  · obtain ⟨m1, m2, m3, m4⟩ := I.mu a nd e
    exact ⟨m1.grow g (upd_ne (ne _ m1.there)), fun z => z.elim m2 (ne _ m1.there), m3, m4⟩
end
end PL

/-! The layer's judgements, names, constants, operators, statements. -/
namespace PL
open PySem PySem.Spec L2

section
variable (G : PenK) (X : Cx) (Wx : WX)
/-- behind an expression that gives data -/
def Gl1 (c : C) (σ : L2.St) (ρ : Env) (H : Hp) (P : D → Nt → Prop) (Q : VK) : Prop :=
  ∀ d k v S' H', P d k → Grow c.S S' H H' → SI G X.K (c.to S') σ H' ρ k → Rep X.K S' H' d v → Q v H'
/-- .. that gives a new list -/
def FreshAt (c : C) (n : Nt) (σ : L2.St) (ρ : Env) (a : Addr) : Prop := Young c n a ∧ ∀ i sv, ρ[i]? = some sv → sv.isOwn = true → slot σ i ≠ some (.ref a)
def GlO (c : C) (σ : L2.St) (ρ : Env) (H : Hp) (P : List D → Nt → Prop) (Q : VK) : Prop :=
  ∀ xs k a vs S' H', P xs k → Grow c.S S' H H' → SI G X.K (c.to S') σ H' ρ k → H' a = some (.lst vs) → xs.length ≤ sizeLine → Reps X.K S' H' xs vs → FreshAt (c.to S') k σ ρ a → Q (.ref a) H'
/-- .. a test -/
def GlB (c : C) (σ : L2.St) (ρ : Env) (H : Hp) (P : Bool → Nt → Prop) (Q : Bool → Hp → Prop) : Prop :=
  ∀ b k S' H', P b k → Grow c.S S' H H' → SI G X.K (c.to S') σ H' ρ k → Q b H'
/-- .. arguments -/
def GlA (c : C) (σ : L2.St) (ρ : Env) (H : Hp) (P : List D → Nt → Prop) (Q : List V → Hp → Prop) : Prop :=
  ∀ ds k vs S' H', P ds k → Grow c.S S' H H' → SI G X.K (c.to S') σ H' ρ k → Reps X.K S' H' ds vs → Q vs H'
/-- what is wanted of errors -/
def OKx (c : C) (σ : L2.St) (ρ : Env) (H : Hp) (PX : Exc → Nt → Prop) : Prop :=
  ∀ x k S' H' cls dd, PX x k → Grow c.S S' H H' → SI G X.K (c.to S') σ H' ρ k → RepX X.K X.mg S' H' x cls dd → Wx cls dd σ H'
def OKs (c : C) (H : Hp) (PX : Exc → Nt → Prop) : Prop :=
  ∀ x k σ' ρ' S' H' cls dd, PX x k → Grow c.S S' H H' → SI G X.K (c.to S') σ' H' ρ' k → RepX X.K X.mg S' H' x cls dd → Wx cls dd σ' H'

def tE (g : Env → W D) : TE := fun σ H Q => ∃ c ρ n P PX, SI G X.K c σ H ρ n ∧ g ρ n P PX ∧ Gl1 G X c σ ρ H P Q ∧ OKx G X Wx c σ ρ H PX
def tO (g : Env → W (List D)) : TE := fun σ H Q => ∃ c ρ n P PX, SI G X.K c σ H ρ n ∧ g ρ n P PX ∧ GlO G X c σ ρ H P Q ∧ OKx G X Wx c σ ρ H PX
def tT (g : Env → W Bool) : TT := fun σ H Q => ∃ c ρ n P PX, SI G X.K c σ H ρ n ∧ g ρ n P PX ∧ GlB G X c σ ρ H P Q ∧ OKx G X Wx c σ ρ H PX
def tAr (g : Env → W (List D)) : TA := fun σ H Q => ∃ c ρ n P PX, SI G X.K c σ H ρ n ∧ g ρ n P PX ∧ GlA G X c σ ρ H P Q ∧ OKx G X Wx c σ ρ H PX

def E (e : Expr) (g : Env → W D) : Prop := PE X e (tE G X Wx g)
def EO (e : Expr) (g : Env → W (List D)) : Prop := PE X e (tO G X Wx g)
def T (e : Expr) (g : Env → W Bool) : Prop := PT X e (tT G X Wx g)
def A (es : List Expr) (g : Env → W (List D)) : Prop := PA X es (tAr G X Wx g)

/-- how a statement ends -/
inductive Out where
  | nx (ρ : Env) | rt (d : D) (ρ : Env) | bk (ρ : Env) | ct (ρ : Env)
def GlS (c : C) (H : Hp) (P : Out → Nt → Prop) (Dn : Ends) : Prop :=
  (∀ ρ' k σ' S' H', P (.nx ρ') k → Grow c.S S' H H' → SI G X.K (c.to S') σ' H' ρ' k → Dn.nx σ' H') ∧
  (∀ d k v σ' ρ' S' H', P (.rt d ρ') k → Grow c.S S' H H' → SI G X.K (c.to S') σ' H' ρ' k → Rep X.K S' H' d v → Dn.rt v H') ∧
  (∀ ρ' k σ' S' H', P (.bk ρ') k → Grow c.S S' H H' → SI G X.K (c.to S') σ' H' ρ' k → Dn.bk σ' H') ∧
  ∀ ρ' k σ' S' H', P (.ct ρ') k → Grow c.S S' H H' → SI G X.K (c.to S') σ' H' ρ' k → Dn.ct σ' H'
def tS (g : Env → W Out) : TS := fun Dn σ H => ∃ c ρ n P PX, SI G X.K c σ H ρ n ∧ g ρ n P PX ∧ GlS G X c H P Dn ∧ OKs G X Wx c H PX
def St1 (s : Stmt) (g : Env → W Out) : Prop := PS X s (tS G X Wx g)
end

section
variable {G : PenK} {X : Cx} {Wx : WX} {c : C} {σ : L2.St} {ρ : Env} {H H' : Hp} {n k : Nt} {S' : Addr → Prop}
theorem Gl1.grow {P : D → Nt → Prop} {Q : VK} (h : Gl1 G X c σ ρ H P Q) (g : Grow c.S S' H H') : Gl1 G X (c.to S') σ ρ H' P Q :=
  fun d k v S2 H2 p g2 I r => h d k v S2 H2 p (g.trans g2) I r
theorem GlO.grow {P : List D → Nt → Prop} {Q : VK} (h : GlO G X c σ ρ H P Q) (g : Grow c.S S' H H') : GlO G X (c.to S') σ ρ H' P Q :=
  fun d k v vs S2 H2 p g2 I r z q f => h d k v vs S2 H2 p (g.trans g2) I r z q f
theorem GlB.grow {P : Bool → Nt → Prop} {Q : Bool → Hp → Prop} (h : GlB G X c σ ρ H P Q) (g : Grow c.S S' H H') : GlB G X (c.to S') σ ρ H' P Q :=
  fun d k S2 H2 p g2 I => h d k S2 H2 p (g.trans g2) I
theorem GlA.grow {P : List D → Nt → Prop} {Q : List V → Hp → Prop} (h : GlA G X c σ ρ H P Q) (g : Grow c.S S' H H') : GlA G X (c.to S') σ ρ H' P Q :=
  fun d k v S2 H2 p g2 I r => h d k v S2 H2 p (g.trans g2) I r
theorem OKx.grow {PX : Exc → Nt → Prop} (h : OKx G X Wx c σ ρ H PX) (g : Grow c.S S' H H') : OKx G X Wx (c.to S') σ ρ H' PX :=
  fun x k S2 H2 cl dd p g2 I r => h x k S2 H2 cl dd p (g.trans g2) I r
theorem OKs.grow {PX : Exc → Nt → Prop} (h : OKs G X Wx c H PX) (g : Grow c.S S' H H') : OKs G X Wx (c.to S') H' PX :=
  fun x k σ2 ρ2 S2 H2 cl dd p g2 I r => h x k σ2 ρ2 S2 H2 cl dd p (g.trans g2) I r
theorem OKs.x {PX : Exc → Nt → Prop} (h : OKs G X Wx c H PX) : OKx G X Wx c σ ρ H PX :=
  fun x k S2 H2 cl dd p g I r => h x k σ ρ S2 H2 cl dd p g I r
theorem GlS.grow {P : Out → Nt → Prop} {Dn : Ends} (h : GlS G X c H P Dn) (g : Grow c.S S' H H') : GlS G X (c.to S') H' P Dn :=
  ⟨fun ρ k σ S2 H2 p g2 I => h.1 ρ k σ S2 H2 p (g.trans g2) I, fun d k v σ ρ S2 H2 p g2 I r => h.2.1 d k v σ ρ S2 H2 p (g.trans g2) I r,
    fun ρ k σ S2 H2 p g2 I => h.2.2.1 ρ k σ S2 H2 p (g.trans g2) I, fun ρ k σ S2 H2 p g2 I => h.2.2.2 ρ k σ S2 H2 p (g.trans g2) I⟩
theorem Gl1.at {P : D → Nt → Prop} {Q : VK} (h : Gl1 G X c σ ρ H P Q) {d : D} {v : V} (p : P d n) (I : SI G X.K c σ H ρ n) (r : Rep X.K c.S H d v) : Q v H :=
  h d n v c.S H p .refl I r
/-- a new object as the answer -/
theorem Gl1.new {P : D → Nt → Prop} {Q : VK} (h : Gl1 G X c σ ρ H P Q) {d : D} {a : Addr} {o : HO} (p : P d n) (I : SI G X.K c σ H ρ n) (hp : H a = none)
    (r : Grow c.S (fun b => c.S b ∨ b = a) H (upd H a o) → Rep X.K (fun b => c.S b ∨ b = a) (upd H a o) d (.ref a)) : Q (.ref a) (upd H a o) := by
  obtain ⟨I', g⟩ := I.laid (o := o) hp
  exact h d n _ _ _ p g I' (r g)
theorem weakE {e : Expr} {t t' : TE} (h : PE X e t) (f : ∀ σ H Q, t' σ H Q → t σ H Q) : PE X e t' := ⟨fun pins s σ H Q I q => h.run pins s σ H Q I (f σ H Q q)⟩
theorem weakT {e : Expr} {t t' : TT} (h : PT X e t) (f : ∀ σ H Q, t' σ H Q → t σ H Q) : PT X e t' := ⟨fun pins s σ H Q I q => h.run pins s σ H Q I (f σ H Q q)⟩
theorem weakW {e : Expr} {t t' : TT} (h : PW X e t) (f : ∀ σ H Q, t' σ H Q → t σ H Q) : PW X e t' := ⟨fun wh pins s σ H Q I q => h.run wh pins s σ H Q I (f σ H Q q)⟩
theorem weakA {es : List Expr} {t t' : TA} (h : PA X es t) (f : ∀ σ H Q, t' σ H Q → t σ H Q) : PA X es t' := ⟨fun pos pins s σ H Q I q => h.run pos pins s σ H Q I (f σ H Q q)⟩
theorem weakS {s : Stmt} {t t' : TS} (h : PS X s t) (f : ∀ D σ H, t' D σ H → t D σ H) : PS X s t' := ⟨fun pins s σ H D I q => h.run pins s σ H D I (f D σ H q)⟩
theorem weakSs {s : List Stmt} {t t' : TS} (h : PSs X s t) (f : ∀ D σ H, t' D σ H → t D σ H) : PSs X s t' := ⟨fun pins s σ H D I q => h.run pins s σ H D I (f D σ H q)⟩
/-- the parts in a row -/
theorem tE.bnd {α : Type} {g : Env → W D} {f : D → W α} {P : α → Nt → Prop} {PX : Exc → Nt → Prop} {Q : VK} (I : SI G X.K c σ H ρ n) (h : PL.bnd (g ρ) f n P PX) (hx : OKx G X Wx c σ ρ H PX)
    (hk : ∀ d k v S' H', f d k P PX → Grow c.S S' H H' → SI G X.K (c.to S') σ H' ρ k → OKx G X Wx (c.to S') σ ρ H' PX → Rep X.K S' H' d v → Q v H') : tE G X Wx g σ H Q :=
  ⟨c, ρ, n, fun d k => f d k P PX, PX, I, h, fun d k v S' H' p g I' r => hk d k v S' H' p g I' (hx.grow g) r, hx⟩
theorem tO.bnd {α : Type} {g : Env → W (List D)} {f : List D → W α} {P : α → Nt → Prop} {PX : Exc → Nt → Prop} {Q : VK} (I : SI G X.K c σ H ρ n) (h : PL.bnd (g ρ) f n P PX) (hx : OKx G X Wx c σ ρ H PX)
    (hk : ∀ xs k a vs S' H', f xs k P PX → Grow c.S S' H H' → SI G X.K (c.to S') σ H' ρ k → OKx G X Wx (c.to S') σ ρ H' PX → H' a = some (.lst vs) → xs.length ≤ sizeLine → Reps X.K S' H' xs vs → FreshAt (c.to S') k σ ρ a → Q (.ref a) H') : tO G X Wx g σ H Q :=
  ⟨c, ρ, n, fun d k => f d k P PX, PX, I, h, fun d k v vs S' H' p g I' r z q fr => hk d k v vs S' H' p g I' (hx.grow g) r z q fr, hx⟩
theorem tT.bnd {α : Type} {g : Env → W Bool} {f : Bool → W α} {P : α → Nt → Prop} {PX : Exc → Nt → Prop} {Q : Bool → Hp → Prop} (I : SI G X.K c σ H ρ n) (h : PL.bnd (g ρ) f n P PX) (hx : OKx G X Wx c σ ρ H PX)
    (hk : ∀ d k S' H', f d k P PX → Grow c.S S' H H' → SI G X.K (c.to S') σ H' ρ k → OKx G X Wx (c.to S') σ ρ H' PX → Q d H') : tT G X Wx g σ H Q :=
  ⟨c, ρ, n, fun d k => f d k P PX, PX, I, h, fun d k S' H' p g I' => hk d k S' H' p g I' (hx.grow g), hx⟩
theorem tAr.bnd {α : Type} {g : Env → W (List D)} {f : List D → W α} {P : α → Nt → Prop} {PX : Exc → Nt → Prop} {Q : List V → Hp → Prop} (I : SI G X.K c σ H ρ n) (h : PL.bnd (g ρ) f n P PX) (hx : OKx G X Wx c σ ρ H PX)
    (hk : ∀ d k v S' H', f d k P PX → Grow c.S S' H H' → SI G X.K (c.to S') σ H' ρ k → OKx G X Wx (c.to S') σ ρ H' PX → Reps X.K S' H' d v → Q v H') : tAr G X Wx g σ H Q :=
  ⟨c, ρ, n, fun d k => f d k P PX, PX, I, h, fun d k v S' H' p g I' r => hk d k v S' H' p g I' (hx.grow g) r, hx⟩

end
section
variable {G : PenK} {K : PySem.W.Frag} {c : C} {σ : L2.St} {ρ : Env} {H H' : Hp} {n k : Nt} {S' : Addr → Prop}
/-- a name takes data -/
theorem SI.set {i : Nat} {d : D} {v : V} (I : SI G K c σ H ρ n) (r : Rep K c.S H d v) : SI G K c (σ.set i (some v)) H (ρ.set i (.d d)) n := by
  have key : ∀ j sv, (ρ.set i (.d d))[j]? = some sv → (j = i ∧ sv = .d d ∧ slot (σ.set i (some v)) j = some v) ∨ (i ≠ j ∧ ρ[j]? = some sv ∧ slot (σ.set i (some v)) j = slot σ j) := fun j sv e => by
    by_cases h : i = j
    · subst h
      have hl : i < ρ.length := by
        have := (List.getElem?_eq_some_iff.mp e).1
        rwa [List.length_set] at this
      rw [List.getElem?_set_self hl] at e
      exact .inl ⟨rfl, (Option.some.inj e).symm, slot_set_same (I.len ▸ hl)⟩
    · rw [List.getElem?_set_ne h] at e
      exact .inr ⟨h, e, slot_set_ne h⟩
  refine ⟨by rw [List.length_set, List.length_set, I.len], fun j sv e => ?_, fun j sv a e ho es => ?_, fun j k sv sv' a hn e e' ho ho' es es' => ?_, I.dom, I.fr, I.pen, I.no, I.tab, I.mu, I.mu0, I.mz⟩
  · rcases key j sv e with ⟨_, rfl, h⟩ | ⟨_, h, h2⟩
    · exact ⟨v, h, r⟩
    · rw [h2]; exact I.slots j sv h
  · rcases key j sv e with ⟨_, rfl, h⟩ | ⟨_, h, h2⟩
    · cases ho
    · exact I.own j sv a h ho (h2 ▸ es)
  · rcases key j sv e with ⟨_, rfl, h⟩ | ⟨_, h, h2⟩
    · cases ho
    · rcases key k sv' e' with ⟨_, rfl, h⟩ | ⟨_, h', h2'⟩
      · cases ho'
      · exact I.apart j k sv sv' a hn h h' ho ho' (h2 ▸ es) (h2' ▸ es')
/-- a name takes a new list -/
theorem SI.setO {i : Nat} {xs : List D} {a : Addr} {vs : List V} (I : SI G K c σ H ρ n) (e1 : H a = some (.lst vs)) (z : xs.length ≤ sizeLine) (r : Reps K c.S H xs vs) (y : Young c n a)
    (f : ∀ j sv, i ≠ j → ρ[j]? = some sv → sv.isOwn = true → slot σ j ≠ some (.ref a)) : SI G K c (σ.set i (some (.ref a))) H (ρ.set i (.own xs)) n := by
  have key : ∀ j sv, (ρ.set i (.own xs))[j]? = some sv → (j = i ∧ sv = .own xs ∧ slot (σ.set i (some (.ref a))) j = some (.ref a)) ∨ (i ≠ j ∧ ρ[j]? = some sv ∧ slot (σ.set i (some (.ref a))) j = slot σ j) := fun j sv e => by
    by_cases h : i = j
    · subst h
      have hl : i < ρ.length := by
        have := (List.getElem?_eq_some_iff.mp e).1
        rwa [List.length_set] at this
      rw [List.getElem?_set_self hl] at e
      exact .inl ⟨rfl, (Option.some.inj e).symm, slot_set_same (I.len ▸ hl)⟩
    · rw [List.getElem?_set_ne h] at e
      exact .inr ⟨h, e, slot_set_ne h⟩
  refine ⟨by rw [List.length_set, List.length_set, I.len], fun j sv e => ?_, fun j sv b e ho es => ?_, fun j k sv sv' b hn e e' ho ho' es es' => ?_, I.dom, I.fr, I.pen, I.no, I.tab, I.mu, I.mu0, I.mz⟩
  · rcases key j sv e with ⟨_, rfl, h⟩ | ⟨_, h, h2⟩
    · exact ⟨a, vs, h, e1, z, r⟩
    · rw [h2]; exact I.slots j sv h
  · rcases key j sv e with ⟨_, rfl, h⟩ | ⟨_, h, h2⟩
    · rw [h] at es; cases es; exact y
    · exact I.own j sv b h ho (h2 ▸ es)
  · rcases key j sv e with ⟨h0, rfl, h⟩ | ⟨_, h, h2⟩
    · rcases key k sv' e' with ⟨h0', rfl, h'⟩ | ⟨_, h', h2'⟩
      · exact hn (h0.trans h0'.symm)
      · rw [h] at es; cases es
        exact f k sv' (h0 ▸ hn) h' ho' (h2' ▸ es')
    · rcases key k sv' e' with ⟨h0', rfl, h'⟩ | ⟨_, h', h2'⟩
      · rw [h'] at es'; cases es'
        exact f j sv (fun q => hn (q ▸ h0'.symm)) h ho (h2 ▸ es)
      · exact I.apart j k sv sv' b hn h h' ho ho' (h2 ▸ es) (h2' ▸ es')
/-- an address comes among those that stay -/
theorem SI.adopt {a : Addr} (I : SI G K c σ H ρ n) (y : FreshAt c n σ ρ a) (h : H a ≠ none) : SI G K (c.to fun b => c.S b ∨ b = a) σ H ρ n ∧ Grow c.S (fun b => c.S b ∨ b = a) H H := by
  have g : Grow c.S (fun b => c.S b ∨ b = a) H H := ⟨fun _ h => .inl h, fun _ _ => rfl⟩
  refine ⟨⟨I.len, fun i sv e => (I.slots i sv e).grow g fun _ _ _ => rfl, fun i sv b e ho es => ?_, I.apart, fun b h' => ?_, I.fr, fun p e => ?_, fun b h => ⟨fun z => z.elim (I.no b h).1 fun z => (I.no b h).2 (z ▸ y.1.2.1), (I.no b h).2⟩, fun q e => ⟨(I.tab q e).1, (I.tab q e).2.grow g rfl⟩, fun b nd e => ⟨(I.mu b nd e).1.grow g rfl, fun z => Or.elim z (I.mu b nd e).2.1 fun z => (by rw [z, y.1.2.2] at e; cases e), (I.mu b nd e).2.2⟩, I.mu0, I.mz⟩, g⟩
  · obtain ⟨h1, h2⟩ := I.own i sv b e ho es
    exact ⟨fun z => z.elim h1 fun z => y.2 i sv e ho (z ▸ es), h2⟩
  · rcases h' with h' | rfl
    · exact I.dom b h'
    · exact h
  · obtain ⟨h1, h2, h3, h4, h5⟩ := I.pen p e
    exact ⟨h1, fun z => z.elim h2 fun z => h4 (z ▸ y.1.2.1), fun z => z.elim h3 fun z => h5 (z ▸ y.1.2.1), h4, h5⟩

/-! ### all that is one's own, lent -/
def ownS (ρ : Env) (σ : L2.St) (a : Addr) : Prop := ∃ i sv, ρ[i]? = some sv ∧ sv.isOwn = true ∧ slot σ i = some (.ref a)
theorem bor_get {i : Nat} {sv : SV} (h : (bor ρ)[i]? = some sv) : ∃ s0, ρ[i]? = some s0 ∧ sv = s0.bor := by
  unfold bor at h
  rw [List.getElem?_map] at h
  cases e : ρ[i]? with
  | none => rw [e] at h; cases h
  | some s0 => rw [e] at h; exact ⟨s0, rfl, (Option.some.inj h).symm⟩
theorem bor_own {s : SV} : s.bor.isOwn = false := by cases s <;> rfl
theorem SI.own_there (I : SI G K c σ H ρ n) {a : Addr} (h : ownS ρ σ a) : H a ≠ none := by
  obtain ⟨i, sv, e, ho, es⟩ := h
  have q := I.slots i sv e
  cases sv with
  | own xs => obtain ⟨b, vs, e1, r, _⟩ := q; rw [e1] at es; cases es; rw [r]; exact fun z => nomatch z
  | ownK kvs => obtain ⟨b, vs, e1, r, _⟩ := q; rw [e1] at es; cases es; rw [r]; exact fun z => nomatch z
  | un => cases ho
  | d _ => cases ho
  | pen => cases ho
  | exc _ => cases ho
  | lam _ _ _ _ _ => cases ho
  | o _ => cases ho
theorem SI.lend (I : SI G K c σ H ρ n) : SI G K (c.to fun a => c.S a ∨ ownS ρ σ a) σ H (bor ρ) n ∧ Grow c.S (fun a => c.S a ∨ ownS ρ σ a) H H := by
  have g : Grow c.S (fun a => c.S a ∨ ownS ρ σ a) H H := ⟨fun _ h => .inl h, fun _ _ => rfl⟩
  refine ⟨⟨by unfold bor; rw [List.length_map, I.len], fun i sv e => ?_, fun i sv a e ho => ?_, fun i j sv sv' a _ e _ ho => ?_, fun a h => h.elim (I.dom a) I.own_there, I.fr, fun p e => ?_, fun a h => ⟨fun z => z.elim (I.no a h).1 fun ⟨i, sv, e, ho, es⟩ => (I.no a h).2 (I.own i sv a e ho es).2.1, (I.no a h).2⟩, fun q e => ⟨(I.tab q e).1, (I.tab q e).2.grow g rfl⟩, fun a nd e => ⟨(I.mu a nd e).1.grow g rfl, fun z => Or.elim z (I.mu a nd e).2.1 fun ⟨i, sv, e1, ho, es⟩ => (by rw [(I.own i sv a e1 ho es).2.2] at e; cases e), (I.mu a nd e).2.2⟩, I.mu0, I.mz⟩, g⟩
  · obtain ⟨s0, e0, rfl⟩ := bor_get e
    have q := (I.slots i s0 e0).grow g fun _ _ _ => rfl
    have q0 := I.slots i s0 e0
    cases s0 with
    | own xs => obtain ⟨b, vs, e1, r, z, q⟩ := q; exact ⟨.ref b, e1, b, vs, rfl, ⟨.inr ⟨i, _, e0, rfl, e1⟩, r⟩, z, q⟩
    | ownK kvs => obtain ⟨b, vs, e1, r, q⟩ := q; exact ⟨.ref b, e1, b, vs, rfl, ⟨.inr ⟨i, _, e0, rfl, e1⟩, .inl r⟩, q⟩
    | un => trivial
    | d _ => exact q
    | pen => exact q
    | exc _ => exact q
    | lam _ _ _ _ _ => exact q
    | o _ => exact q
  · obtain ⟨s0, _, rfl⟩ := bor_get e
    rw [bor_own] at ho; cases ho
  · obtain ⟨s0, _, rfl⟩ := bor_get e
    rw [bor_own] at ho; cases ho
  · obtain ⟨h1, h2, h3, h4, h5⟩ := I.pen p e
    have no : ∀ b, c.H0 b ≠ none → ¬ ownS ρ σ b := fun b hb ⟨i, sv, e, ho, es⟩ => hb (I.own i sv b e ho es).2.1
    exact ⟨h1, fun z => z.elim h2 (no _ h4), fun z => z.elim h3 (no _ h5), h4, h5⟩
/-- and given back -/
theorem SI.back {S' : Addr → Prop} (I : SI G K c σ H ρ n) (g : Grow (fun a => c.S a ∨ ownS ρ σ a) S' H H') (J : SI G K (c.to S') σ H' (bor ρ) k) :
    SI G K (c.to fun a => S' a ∧ ¬ ownS ρ σ a) σ H' ρ k ∧ Grow c.S (fun a => S' a ∧ ¬ ownS ρ σ a) H H' := by
  have no : ∀ a, c.S a → ¬ ownS ρ σ a := fun a h ⟨i, sv, e, ho, es⟩ => (I.own i sv a e ho es).1 h
  have g2 : Grow c.S (fun a => S' a ∧ ¬ ownS ρ σ a) H H' := ⟨fun a h => ⟨g.sub a (.inl h), no a h⟩, fun a h => g.eq a (.inl h)⟩
  refine ⟨⟨I.len, fun i sv e => (I.slots i sv e).grow g2 fun a ea ho => g.eq a (.inr ⟨i, sv, e, ho, ea⟩), fun i sv a e ho es => ⟨fun z => z.2 ⟨i, sv, e, ho, es⟩, (I.own i sv a e ho es).2.1, ?_⟩, I.apart, fun a h => J.dom a h.1, J.fr, fun p e => ?_, fun a h => ⟨fun z => (J.no a h).1 z.1, (J.no a h).2⟩, fun q e => ⟨(J.tab q e).1, ?_⟩, fun a nd e => ?_, J.mu0, J.mz⟩, g2⟩
  · cases q : k.μ a with
    | none => rfl
    | some nd =>
      have hS := J.muS (by rw [q]; exact fun z => nomatch z)
      exact absurd (g.sub a (.inr ⟨i, sv, e, ho, es⟩)) hS.1
  · obtain ⟨h1, h2, h3, h4, h5⟩ := J.pen p e
    exact ⟨h1, fun z => h2 z.1, fun z => h3 z.1, h4, h5⟩
  · obtain ⟨ps, h1, h2, h3⟩ := (J.tab q e).2
    refine ⟨ps, h1, h2, fun pos cv z => ?_⟩
    obtain ⟨c', e1, e2, e3⟩ := h3 pos cv z
    refine ⟨c', e1, ⟨e2, fun ⟨i, sv, k1, k2, k3⟩ => ?_⟩, e3⟩
    have hh : H' c' = H c' := g.eq c' (.inr ⟨i, sv, k1, k2, k3⟩)
    have q := I.slots i sv k1
    rw [e3] at hh
    cases sv with
    | own xs => obtain ⟨b, vs, u1, r, _⟩ := q; rw [u1] at k3; cases k3; rw [r] at hh; cases hh
    | ownK kvs => obtain ⟨b, vs, u1, r, _⟩ := q; rw [u1] at k3; cases k3; rw [r] at hh; cases hh
    | _ => cases k2
  · obtain ⟨m1, m2, m3, m4⟩ := J.mu a nd e
    exact ⟨m1.move rfl, fun z => m2 z.1, m3, m4⟩
end
end PL

/-! New tuples that are told by their very objects: none of them has a dict of its own. -/
namespace PL
open PySem PySem.Spec PyProof.Rows L2
/-- a new tuple -/
def NewT (H : Hp) (ys : List V) (Q : VK) : Prop := ∀ p o, H p = none → o.dict = none → Q (.ref p) (upd H p (.frz o (.tup ys)))
section
variable {X : Cx} {pins : List (Addr × Obj)} {σ : L2.St} {H : Hp} {s : Shared}
theorem newT {ys : List V} {its : List Value} {Q : VK} {n : Nat} (I : Inv X pins σ H s) (r : Vals ys its) (hz : ys.length ≤ sizeLine) (q : NewT H ys Q) : EP X pins σ Q (.ref s.heap.objs.size) { s with heap := s.heap.push { cls := .type "tuple", data := .seq its.toArray n } } :=
  ⟨.ref s.heap.objs.size, _, I.laid (t' := s.toks) (o := .frz { cls := .type "tuple", data := .seq its.toArray n } (.tup ys)) (fun b u e => Heap.get?_push_of_some _ e) (Nat.le_refl _) ⟨Heap.get?_push_size _ rfl, hz, its, r, ⟨_, Heap.get?_push_size _ rfl, rfl, _, rfl⟩⟩, rfl, q _ _ (I.hok.fresh (Nat.le_refl _)) rfl⟩
def tTupZ (t : TA) : TE := fun σ H Q => t σ H fun xs H1 => xs.length ≤ sizeLine ∧ NewT H1 xs Q
theorem pe_tupZ {es : List Expr} {x1 : Nat} {pos : Pos} {t : TA} (h : PA X es t) : PE X (.Tuple es x1 pos) (tTupZ t) := by
  refine ⟨fun pins s σ H Q I hq => ?_⟩
  exact wpAny_Tuple_spliced (thn (h.run pos pins s σ H _ I hq) fun us s1 ⟨xs, H1, I1, r, z, q⟩ => ⟨by rw [← r.length]; exact z, newT I1 r z q⟩)
def rCatZ (K : PySem.W.Frag) : R2 := fun x y H Q => ∃ a b xs ys, x = .ref a ∧ y = .ref b ∧ SqT K H a xs ∧ SqT K H b ys ∧ xs.length + ys.length ≤ sizeLine ∧
  (xs = [] → Q (.ref b) H) ∧ (xs ≠ [] → ys = [] → Q (.ref a) H) ∧ (xs ≠ [] → ys ≠ [] → NewT H (xs ++ ys) Q)
theorem op_catZ : OpR X (binaryOp .Add) (rCatZ X.K) := by
  intro pins s σ H x y v u Q I rx ry h
  obtain ⟨a, b, xs, ys, rfl, rfl, ha, hb, hz, q0, q1, q2⟩ := h
  cases rx
  cases ry
  obtain ⟨its, r1, p1, _⟩ := I.tuple ha
  obtain ⟨its2, r2, p2, _⟩ := I.tuple hb
  by_cases hx : xs = []
  · subst hx
    cases r1
    exact cat_tup0 p1 p2 ⟨.ref b, H, I, rfl, q0 rfl⟩
  · refine HT.cat_tup p1 p2 (fun z => hx (r1.nil_iff.mp z)) (fun z => ⟨.ref a, H, I, rfl, q1 hx (r2.nil_iff.mp z)⟩) (fun z => ?_) (by rw [← r1.length, ← r2.length]; exact hz)
    exact newT I (r1.append r2) (by rw [List.length_append]; exact hz) (q2 hx fun w => z (r2.nil_iff.mpr w))
def rSlZ (K : PySem.W.Frag) : V → Option Int → Option Int → Hp → VK → Prop := fun x lo hi H Q => ∃ a xs, x = .ref a ∧ SqT K H a xs ∧
  (HT.sIx xs.length 0 lo = 0 ∧ HT.sIx xs.length xs.length hi = xs.length → Q (.ref a) H) ∧ (¬ (HT.sIx xs.length 0 lo = 0 ∧ HT.sIx xs.length xs.length hi = xs.length) → NewT H (cutV xs lo hi) Q)
theorem sl_tupZ : SlR X (rSlZ X.K) := by
  intro pins s σ H x v vl vu lo hi sl Q I rx hs pl pu h
  obtain ⟨a, xs, rfl, hx, q1, q2⟩ := h
  cases rx
  obtain ⟨its, r, ht, hz⟩ := I.tuple hx
  have hlen : its.toArray.size = xs.length := by rw [List.size_toArray]; exact r.length.symm
  refine ⟨"tuple", _, PyProof.Rows.slot_tuple_getitem.lookup, ht.typeIs, ?_⟩
  by_cases hw : HT.sIx xs.length 0 lo = 0 ∧ HT.sIx xs.length xs.length hi = xs.length
  · exact getItem_tuple_whole ht hs pl pu (by rw [hlen]; exact hw) ⟨.ref a, H, I, rfl, q1 hw⟩
  · refine HT.getItem_tuple_cut ht hs pl pu (by rw [hlen]; exact hw) ?_ (by rw [hlen]; exact hz)
    rw [hlen]
    exact newT I ((r.drop (HT.sIx xs.length 0 lo)).take (HT.sIx xs.length xs.length hi - HT.sIx xs.length 0 lo)) (Nat.le_trans (cutV_length xs lo hi) hz) (q2 hw)
theorem call_tupleZ : CallR X (.type "tuple") (fun xs H Q => ∃ p ys, xs = [.ref p] ∧ ((SqL X.K H p ys ∧ NewT H ys Q) ∨ (SqT X.K H p ys ∧ Q (.ref p) H))) := by
  intro pins s σ H xs us Q I r h
  obtain ⟨p, ys, rfl, h⟩ := h
  obtain ⟨u, rfl, rx⟩ := vals1 r
  cases rx
  rcases h with ⟨hq, q⟩ | ⟨hq, q⟩
  · obtain ⟨its, r', pl, hz⟩ := I.list hq
    have hlen := r'.length
    refine call_tuple_list pl.isList (fun h' kp => ?_) (by simp only [List.size_toArray] <;> omega)
    have I1 : Inv X pins σ H { s with heap := h' } := I.kept (t' := s.toks) kp
    exact newT I1 r' hz q
  · obtain ⟨its, r', pl, hz⟩ := I.tuple hq
    exact call_tuple_same pl ⟨.ref p, H, I, rfl, q⟩
end
end PL

/-! The layer's expressions. -/
namespace PL
open PySem PySem.Spec L2

mutual
/-- data as the library's own data (a dict is not carried) -/
def py : D → PyData
  | .non => .none
  | .bl b => .bool b
  | .int i => .int i
  | .str x => .str x
  | .lst xs => .list (pys xs)
  | .tup xs => .tuple (pys xs)
  | .dic kvs => .dict (pyk kvs)
  | .ins _ _ _ => .dict [(.int (2 ^ 2000), .none)]
def pys : List D → List PyData
  | [] => []
  | x :: xs => py x :: pys xs
def pyk : List (Key × D) → List (PyData × PyData)
  | [] => []
  | (.inl i, x) :: r => (.int i, py x) :: pyk r
  | (.inr s, x) :: r => (.str s, py x) :: pyk r
end
def okD (d : D) : Bool := SeqAt.shaped (py d)

def nm (ρ : Env) (i : Nat) : W D := match ρ[i]? with
  | some (.d x) => ret x
  | _ => stuck
def addD : D → D → W D
  | .int i, .int j => ret (.int (i + j))
  | .str a, .str b => grd (a.length + b.length ≤ sizeLine) (ret (.str (a ++ b)))
  | .tup xs, .tup ys => grd (xs.length + ys.length ≤ sizeLine) (ret (.tup (xs ++ ys)))
  | .lst xs, .lst ys => grd (xs.length + ys.length ≤ sizeLine) (ret (.lst (xs ++ ys)))
  | _, _ => stuck
def catD : D → D → W (List D)
  | .lst xs, .lst ys => grd (xs.length + ys.length ≤ sizeLine) (ret (xs ++ ys))
  | _, _ => stuck
def subD : D → D → W D
  | .int i, .int j => ret (.int (i - j))
  | _, _ => stuck
def powD : D → D → W D
  | .int i, .int j => grd (CPow i j) (ret (.int (i ^ j.toNat)))
  | _, _ => stuck
def negD : D → W D
  | .int i => ret (.int (-i))
  | _ => stuck
/-- two lists of unlike length -/
def difL : D → D → Bool
  | .lst xs, .lst ys => xs.length != ys.length
  | _, _ => false
theorem pys_len : ∀ xs : List D, (pys xs).length = xs.length
  | [] => rfl
  | x :: xs => by show _ + 1 = _ + 1; rw [pys_len xs]
theorem eqvAll_len : ∀ xs ys : List PyData, xs.length ≠ ys.length → PyData.eqvAll xs ys = false
  | [], [], h => absurd rfl h
  | [], _ :: _, _ => by simp [PyData.eqvAll]
  | _ :: _, [], _ => by simp [PyData.eqvAll]
  | x :: xs, y :: ys, h => by
    have ih := eqvAll_len xs ys fun e => h (by show _ + 1 = _ + 1; rw [e])
    simp [PyData.eqvAll, ih]
theorem difL_eqv {a b : D} (h : difL a b = true) : ∃ xs ys, a = .lst xs ∧ b = .lst ys ∧ xs.length ≠ ys.length ∧ PyData.eqv (py a) (py b) = false := by
  unfold difL at h
  split at h
  · rename_i xs ys
    have hn : xs.length ≠ ys.length := by simpa using h
    refine ⟨xs, ys, rfl, rfl, hn, ?_⟩
    simp only [py, PyData.eqv]
    exact eqvAll_len _ _ (by rw [pys_len, pys_len]; exact hn)
  · cases h
def strS : D → D → Bool
  | .str _, .str _ => true
  | _, _ => false
def eqQ (a b : D) : Prop := (okD a = true ∧ okD b = true) ∨ difL a b = true ∨ strS a b = true
def eqD (a b : D) : W D := grd (eqQ a b) (ret (.bl (PyData.eqv (py a) (py b))))
def neD (a b : D) : W D := grd (eqQ a b) (ret (.bl (!PyData.eqv (py a) (py b))))
def ltD : D → D → W D
  | .int i, .int j => ret (.bl (decide (i < j)))
  | .str a, .str b => ret (.bl (decide (a.cps.toList < b.cps.toList)))
  | _, _ => stuck
def leD : D → D → W D
  | .int i, .int j => ret (.bl (decide (i ≤ j)))
  | .str a, .str b => ret (.bl (!decide (b.cps.toList < a.cps.toList)))
  | _, _ => stuck
def gtD : D → D → W D
  | .int i, .int j => ret (.bl (decide (j < i)))
  | .str a, .str b => ret (.bl (decide (b.cps.toList < a.cps.toList)))
  | _, _ => stuck
def geD : D → D → W D
  | .int i, .int j => ret (.bl (decide (j ≤ i)))
  | .str a, .str b => ret (.bl (!decide (a.cps.toList < b.cps.toList)))
  | _, _ => stuck
def isNone (a : D) : Bool := match a with
  | .non => true
  | _ => false
/-- a is None, a is not None -/
def isND (a b : D) : W D := match b with
  | .non => ret (.bl (isNone a))
  | .bl y => match a with
    | .bl x => ret (.bl (decide (x = y)))
    | _ => stuck
  | _ => stuck
def notND (a b : D) : W D := match b with
  | .non => ret (.bl (!isNone a))
  | .bl y => match a with
    | .bl x => ret (.bl (!decide (x = y)))
    | _ => stuck
  | _ => stuck
def scEq : D → D → Bool
  | .non, .non => true
  | .bl a, .bl b => a == b
  | .int i, .int j => i == j
  | .bl a, .int j => (if a then 1 else 0) == j
  | .int i, .bl b => i == (if b then 1 else 0)
  | .str x, .str y => x == y
  | _, _ => false

def tru : D → W Bool
  | .non => ret false
  | .bl b => ret b
  | .int i => ret (i != 0)
  | .str x => ret ((x.length : Int) != 0)
  | .lst xs => ret (!xs.isEmpty)
  | .tup xs => ret (!xs.isEmpty)
  | .dic _ => stuck
  | .ins _ _ _ => stuck
def items : D → W (List D)
  | .lst xs => ret xs
  | .tup xs => ret xs
  | _ => stuck
def ixD : D → D → W D
  | .lst xs, .int i => match atI xs i with
    | some x => ret x
    | none => stuck
  | .tup xs, .int i => match atI xs i with
    | some x => ret x
    | none => stuck
  | .str z, .int i => match atI z.cps.toList i with
    | some k => ret (.str ⟨#[k]⟩)
    | none => stuck
  | _, _ => stuck
def lenD : D → W D
  | .lst xs => ret (.int xs.length)
  | .tup xs => ret (.int xs.length)
  | .str x => ret (.int x.length)
  | .dic kvs => ret (.int kvs.length)
  | _ => stuck
def one (f : D → W D) : List D → W D
  | [x] => f x
  | _ => stuck
def two (f : D → D → W D) : List D → W D
  | [x, y] => f x y
  | _ => stuck
def cutD {α : Type} (xs : List α) (lo hi : Option Int) : List α := (xs.drop (HT.sIx xs.length 0 lo)).take (HT.sIx xs.length xs.length hi - HT.sIx xs.length 0 lo)

section
variable {G : PenK} {X : Cx} {Wx : WX}

/-! ### by values -/
def V1 (G : PenK) (X : Cx) (Wx : WX) (h : D → W D) (r : V → Hp → VK → Prop) : Prop :=
  ∀ c σ ρ H n P PX d v Q, SI G X.K c σ H ρ n → Rep X.K c.S H d v → h d n P PX → Gl1 G X c σ ρ H P Q → OKx G X Wx c σ ρ H PX → r v H Q
def V2 (G : PenK) (X : Cx) (Wx : WX) (h : D → D → W D) (r : R2) : Prop :=
  ∀ c σ ρ H n P PX d e v w Q, SI G X.K c σ H ρ n → Rep X.K c.S H d v → Rep X.K c.S H e w → h d e n P PX → Gl1 G X c σ ρ H P Q → OKx G X Wx c σ ρ H PX → r v w H Q
def VA (G : PenK) (X : Cx) (Wx : WX) (h : List D → W D) (r : List V → Hp → VK → Prop) : Prop :=
  ∀ c σ ρ H n P PX ds vs Q, SI G X.K c σ H ρ n → Reps X.K c.S H ds vs → h ds n P PX → Gl1 G X c σ ρ H P Q → OKx G X Wx c σ ρ H PX → r vs H Q
/-- a new list as the answer -/
theorem GlO.new {c : C} {σ : L2.St} {ρ : Env} {H : Hp} {n : Nt} {P : List D → Nt → Prop} {Q : VK} (h : GlO G X c σ ρ H P Q) {xs : List D} {vs : List V} {a : Addr} (p : P xs n) (I : SI G X.K c σ H ρ n) (hp : H a = none)
    (z : xs.length ≤ sizeLine) (r : Reps X.K c.S H xs vs) : Q (.ref a) (upd H a (.lst vs)) := by
  have ne : ∀ b, H b ≠ none → b ≠ a := fun b q e => q (e ▸ hp)
  have g : Grow c.S c.S H (upd H a (.lst vs)) := ⟨fun _ q => q, fun b q => upd_ne (ne b (I.dom b q))⟩
  have I' : SI G X.K c σ (upd H a (.lst vs)) ρ n := ⟨I.len, fun i sv e => (I.slots i sv e).grow g fun b eb ho => upd_ne (ne b (I.own_there ⟨i, sv, e, ho, eb⟩)), I.own, I.apart, fun b q => by rw [upd_ne (ne b (I.dom b q))]; exact I.dom b q,
    fun b u e q => by
      have := I.fr b u e q
      rw [upd_ne (ne b (by rw [this]; exact fun z => nomatch z))]
      exact this, fun q e => by
      obtain ⟨h1, h2, h3, h4, h5⟩ := I.pen q e
      obtain ⟨k1, k2⟩ := G.there h1
      exact ⟨G.dep h1 (upd_ne (ne _ k1)) (upd_ne (ne _ k2)), h2, h3, h4, h5⟩, I.no, fun q e => ⟨(I.tab q e).1, (I.tab q e).2.grow g (upd_ne (ne _ (I.tabN e).2.2))⟩, fun b nd e => ⟨(I.mu b nd e).1.grow g (upd_ne (ne _ (I.mu b nd e).1.there)), (I.mu b nd e).2⟩, I.mu0, I.mz⟩
  exact h xs n a vs c.S _ p g I' upd_same z (Reps.grow g _ _ r) ⟨⟨fun q => I.dom a q hp, I.freeOld hp, I.freeM hp⟩, fun i sv e ho es => I.own_there ⟨i, sv, e, ho, es⟩ hp⟩

/-- a new list may stay -/
theorem EO.e {e : Expr} {g : Env → W (List D)} (h : EO G X Wx e g) : E G X Wx e (fun ρ => bnd (g ρ) fun xs => ret (.lst xs)) :=
  weakE h fun σ H Q ⟨c, ρ, n, P, PX, I, q, hg, hx⟩ => tO.bnd I q hx fun xs k a vs S' H' p g I' _ e z r f => by
    obtain ⟨I2, g2⟩ := I'.adopt f (by rw [e]; exact fun z => nomatch z)
    exact hg (.lst xs) k (.ref a) _ H' p (g.trans g2) I2 ⟨a, vs, rfl, ⟨.inr rfl, e⟩, z, Reps.grow g2 _ _ r⟩

/-! ### names, constants -/
theorem e_nm (i : Nat) {x : Str} {pos : Pos} (hN : X.N[i]? = some x := by rfl) (hv : Vis X.env.scope x := by first | exact Or.inl rfl | exact Or.inr (Or.inl rfl) | exact Or.inr (Or.inr rfl)) (hd : (x == ("__debug__" : Str)) = false := by decide)
    (hcd : (x == ("__classdict__" : Str)) = false := by decide) : E G X Wx (.Name x pos) (fun ρ => nm ρ i) :=
  weakE (pe_var hN hv hd hcd) fun σ H Q ⟨c, ρ, n, P, PX, I, q, hg, hx⟩ => by
    have q : nm ρ i n P PX := q
    unfold nm at q
    cases e : ρ[i]? with
    | none => rw [e] at q; exact q.elim
    | some sv =>
      rw [e] at q
      cases sv with
      | d x =>
        obtain ⟨v, e2, r⟩ := I.slots i _ e
        exact ⟨v, slot_some e2, hg.at q I r⟩
      | un => exact q.elim
      | own _ => exact q.elim
      | ownK _ => exact q.elim
      | pen => exact q.elim
      | exc _ => exact q.elim
      | lam _ _ _ _ _ => exact q.elim
      | o _ => exact q.elim
theorem e_cst {e : Expr} {v : V} {d : D} (h : PE X e (tC v)) (r : ∀ S H, Rep X.K S H d v) : E G X Wx e (fun _ => ret d) :=
  weakE h fun σ H Q ⟨c, ρ, n, P, PX, I, q, hg, hx⟩ => hg.at q I (r _ _)
theorem e_int {i : Int} {j pos} : E G X Wx (.Constant (.int i) j pos) (fun _ => ret (.int i)) := e_cst pe_int fun _ _ => rfl
theorem e_bl {b : Bool} {j pos} : E G X Wx (.Constant (.bool b) j pos) (fun _ => ret (.bl b)) := e_cst pe_bl fun _ _ => rfl
theorem e_non {j pos} : E G X Wx (.Constant .none j pos) (fun _ => ret .non) := e_cst pe_non fun _ _ => rfl
theorem e_str {x : Str} {j pos} (hz : x.length ≤ sizeLine := by decide +kernel) : E G X Wx (.Constant (.str x) j pos) (fun _ => ret (.str x)) := e_cst pe_str fun _ _ => ⟨rfl, hz⟩
/-- a constant of the module -/
theorem e_gs {x y : Str} {t : Tok} {pos : Pos} (hm : X.mg x = some (.str y t)) (hz : y.length ≤ sizeLine := by decide +kernel) (hg : Gl X x := by rfl) (hd : (x == ("__debug__" : Str)) = false := by decide) : E G X Wx (.Name x pos) (fun _ => ret (.str y)) :=
  e_cst (v := .str y) (pe_glob hg hm ⟨t, rfl⟩ hd) fun _ _ => ⟨rfl, hz⟩
theorem e_gi {x : Str} {i : Int} {t : Tok} {pos : Pos} (hm : X.mg x = some (.int i t)) (hg : Gl X x := by rfl) (hd : (x == ("__debug__" : Str)) = false := by decide) : E G X Wx (.Name x pos) (fun _ => ret (.int i)) :=
  e_cst (v := .int i) (pe_glob hg hm ⟨t, rfl⟩ hd) fun _ _ => rfl

/-! ### two parts, a rule by values -/
theorem two_parts {e : Expr} {a b : Expr} {ga gb : Env → W D} {h : D → D → W D} {r : R2} (v : V2 G X Wx h r) (ha : E G X Wx a ga) (hb : E G X Wx b gb)
    (he : PE X e (tOp r (tE G X Wx ga) (tE G X Wx gb))) : E G X Wx e (fun ρ => bnd (ga ρ) fun x => bnd (gb ρ) fun y => h x y) :=
  weakE he fun σ H Q ⟨c, ρ, n, P, PX, I, q, hg, hx⟩ => tE.bnd I q hx fun d k u S' H' p g I' hx' r' =>
    tE.bnd I' p hx' fun d2 k2 u2 S2 H2 p2 g2 I2 hx2 r2 => v _ σ ρ H2 k2 P PX d d2 u u2 Q I2 (Rep.grow g2 _ _ r') r2 p2 (hg.grow (g.trans g2)) hx2
theorem e_op {op : Operator} {a b : Expr} {pos : Pos} {ga gb : Env → W D} {h : D → D → W D} {r : R2} (o : OpR X (binaryOp op) r) (v : V2 G X Wx h r) (ha : E G X Wx a ga) (hb : E G X Wx b gb) :
    E G X Wx (.BinOp a op b pos) (fun ρ => bnd (ga ρ) fun x => bnd (gb ρ) fun y => h x y) := two_parts v ha hb (pe_op o ha hb)
theorem e_un {op : UnaryOp} {a : Expr} {pos : Pos} {ga : Env → W D} {h : D → W D} {r : V → Hp → VK → Prop} (o : UnR X (unaryOp op) r) (v : V1 G X Wx h r) (ha : E G X Wx a ga) :
    E G X Wx (.UnaryOp op a pos) (fun ρ => bnd (ga ρ) h) :=
  weakE (pe_un o ha) fun σ H Q ⟨c, ρ, n, P, PX, I, q, hg, hx⟩ => tE.bnd I q hx fun d k u S' H' p g I' hx' r' => v _ σ ρ H' k P PX d u Q I' r' p (hg.grow g) hx'
theorem e_cmpR {op : CmpOp} {a b : Expr} {pos : Pos} {ga gb : Env → W D} {h : D → D → W D} {r : R2} (o : OpR X (compareOp op) r) (v : V2 G X Wx h r) (ha : E G X Wx a ga) (hb : E G X Wx b gb) (hm : behindInMarks op b = false := by rfl) :
    E G X Wx (.Compare a [op] [b] pos) (fun ρ => bnd (ga ρ) fun x => bnd (gb ρ) fun y => h x y) := two_parts v ha hb (pe_cmpR o ha hb hm)

theorem v2_add : V2 G X Wx addD (fun x y H Q => (∃ i j, x = .int i ∧ y = .int j ∧ Q (.int (i + j)) H) ∨ (∃ i j, x = .str i ∧ y = .str j ∧ i.length + j.length ≤ sizeLine ∧ Q (.str (i ++ j)) H) ∨ rCatZ X.K x y H Q ∨ rCat x y H Q) := by
  intro c σ ρ H n P PX d e v w Q I rd re h hg hx
  cases d with
  | int i =>
    cases e with
    | int j => cases rd; cases re; exact .inl ⟨i, j, rfl, rfl, hg.at (d := .int (i + j)) h I rfl⟩
    | _ => exact h.elim
  | str a =>
    cases e with
    | str b =>
      obtain ⟨rfl, z1⟩ := rd
      obtain ⟨rfl, z2⟩ := re
      obtain ⟨z, h⟩ := h
      exact .inr (.inl ⟨a, b, rfl, rfl, z, hg.at (d := .str (a ++ b)) h I ⟨rfl, by rw [PySem.Str.length_append]; exact z⟩⟩)
    | _ => exact h.elim
  | tup xs =>
    cases e with
    | tup ys =>
      obtain ⟨z, h⟩ := h
      obtain ⟨a, vs, rfl, r1, z1, q1⟩ := id rd
      obtain ⟨b, ws, rfl, r2, z2, q2⟩ := id re
      have l1 := q1.len
      have l2 := q2.len
      refine .inr (.inr (.inl ⟨a, b, vs, ws, rfl, rfl, r1.sq, r2.sq, by omega, fun e => ?_, fun _ e => ?_, fun _ _ p o hp hd => ?_⟩))
      · have e' : xs = [] := by
          subst e
          exact List.eq_nil_of_length_eq_zero l1.symm
        subst e'
        exact hg.at h I re
      · have e' : ys = [] := by
          subst e
          exact List.eq_nil_of_length_eq_zero l2.symm
        subst e'
        rw [List.append_nil] at h
        exact hg.at h I rd
      · exact hg.new h I hp fun g => ⟨p, vs ++ ws, rfl, .inl ⟨.inr rfl, o, upd_same, hd⟩, by rw [List.length_append]; exact z, Reps.app (Reps.grow g _ _ q1) (Reps.grow g _ _ q2)⟩
    | _ => exact h.elim
  | lst xs =>
    cases e with
    | lst ys =>
      obtain ⟨z, h⟩ := h
      obtain ⟨a, vs, rfl, r1, z1, q1⟩ := rd
      obtain ⟨b, ws, rfl, r2, z2, q2⟩ := re
      have l1 := q1.len
      have l2 := q2.len
      exact .inr (.inr (.inr ⟨a, b, vs, ws, rfl, rfl, r1.2, r2.2, by omega, fun p hp => hg.new h I hp fun g => ⟨p, vs ++ ws, rfl, ⟨.inr rfl, upd_same⟩, by rw [List.length_append]; exact z, Reps.app (Reps.grow g _ _ q1) (Reps.grow g _ _ q2)⟩⟩))
    | _ => exact h.elim
  | _ => exact h.elim
theorem e_add {a b : Expr} {pos : Pos} {ga gb : Env → W D} (ha : E G X Wx a ga) (hb : E G X Wx b gb) : E G X Wx (.BinOp a .Add b pos) (fun ρ => bnd (ga ρ) fun x => bnd (gb ρ) fun y => addD x y) :=
  e_op (op_add.or (op_add_str.or (op_catZ.or op_cat))) v2_add ha hb
theorem v2_ints {h : D → D → W D} {C : Int → Int → Prop} {g : Int → Int → Int} (hh : ∀ d e n P PX, h d e n P PX → ∃ i j, d = .int i ∧ e = .int j ∧ C i j ∧ P (.int (g i j)) n) : V2 G X Wx h (rI C fun i j => .int (g i j)) := by
  intro c σ ρ H n P PX d e v w Q I rd re q hg hx
  obtain ⟨i, j, rfl, rfl, q1, q2⟩ := hh d e n P PX q
  cases rd; cases re
  exact ⟨i, j, rfl, rfl, q1, hg.at (d := .int (g i j)) q2 I rfl⟩
theorem e_sub {a b : Expr} {pos : Pos} {ga gb : Env → W D} (ha : E G X Wx a ga) (hb : E G X Wx b gb) : E G X Wx (.BinOp a .Sub b pos) (fun ρ => bnd (ga ρ) fun x => bnd (gb ρ) fun y => subD x y) :=
  e_op op_sub (by
    intro c σ ρ H n P PX d e v w Q I rd re q hg hx
    unfold subD at q
    split at q
    · cases rd; cases re; exact ⟨_, _, rfl, rfl, hg.at (d := .int _) q I rfl⟩
    · exact q.elim) ha hb
theorem e_pow {a b : Expr} {pos : Pos} {ga gb : Env → W D} (ha : E G X Wx a ga) (hb : E G X Wx b gb) : E G X Wx (.BinOp a .Pow b pos) (fun ρ => bnd (ga ρ) fun x => bnd (gb ρ) fun y => powD x y) :=
  e_op op_pow (v2_ints fun d e n P PX q => by
    unfold powD at q
    split at q
    · exact ⟨_, _, rfl, rfl, q.1, q.2⟩
    · exact q.elim) ha hb
theorem e_neg {a : Expr} {pos : Pos} {ga : Env → W D} (ha : E G X Wx a ga) : E G X Wx (.UnaryOp .USub a pos) (fun ρ => bnd (ga ρ) negD) :=
  e_un un_neg (by
    intro c σ ρ H n P PX d v Q I rd q hg hx
    cases d with
    | int i => cases rd; exact ⟨i, rfl, hg.at (d := .int (-i)) q I rfl⟩
    | _ => exact q.elim) ha

/-! ### comparisons -/
mutual
theorem Rep.dp {K : PySem.W.Frag} {S : Addr → Prop} {H : Hp} : ∀ (d : D) (v : V), (py d).canLay0 = true → Rep K S H d v → Dp K H v (py d)
  | .non, _, _, h => by cases h; exact .non
  | .bl _, _, _, h => by cases h; exact .bl _
  | .int _, _, _, h => by cases h; exact .int _
  | .str _, _, _, h => by obtain ⟨rfl, _⟩ := h; exact .str _
  | .lst xs, _, l, h => by
    obtain ⟨a, vs, rfl, r, _, q⟩ := h
    exact .lst r.sq (Reps.dp xs vs (by simpa [py, PyData.canLay0] using l) q)
  | .tup xs, _, l, h => by
    obtain ⟨a, vs, rfl, r, _, q⟩ := h
    exact .tup r.sq (Reps.dp xs vs (by simpa [py, PyData.canLay0] using l) q)
  | .dic kvs, _, l, h => by simp [py, PyData.canLay0] at l
  | .ins _ _ _, _, l, h => by unfold py PyData.canLay0 at l; cases l
theorem Reps.dp {K : PySem.W.Frag} {S : Addr → Prop} {H : Hp} : ∀ (xs : List D) (vs : List V), PyData.canLayAll0 (pys xs) = true → Reps K S H xs vs → DpAll K H vs (pys xs)
  | [], _, _, h => by
    have e : _ = [] := h
    rw [e]
    exact .nil
  | x :: xs, _, l, h => by
    obtain ⟨v, ws, rfl, r, q⟩ := h
    have l' : (py x).canLay0 = true ∧ PyData.canLayAll0 (pys xs) = true := by simpa [pys, PyData.canLayAll0] using l
    exact .cons (Rep.dp x v l'.1 r) (Reps.dp xs ws l'.2 q)
end
def rLen (K : PySem.W.Frag) (b : Bool) : R2 := fun x y H Q => ∃ p q xs ys, x = .ref p ∧ y = .ref q ∧ SqL K H p xs ∧ SqL K H q ys ∧ xs.length ≠ ys.length ∧ Q (.bl b) H
theorem op_eqLen (hu : X.A.units + 64 < cLine) : OpR X (compareOp .Eq) (rLen X.K false) := by
  intro pins s σ H x y v u Q I rx ry ⟨p, q, xs, ys, e1, e2, h1, h2, hn, k⟩
  subst e1 e2
  cases rx
  cases ry
  obtain ⟨i1, r1, p1, _⟩ := I.list h1
  obtain ⟨i2, r2, p2, _⟩ := I.list h2
  exact SeqAt.eq_list_lengthsAt p1.isList p2.isList (by simp only [List.size_toArray, ← r1.length, ← r2.length]; simpa using hn) (by omega) ⟨.bl false, H, I, rfl, k⟩
theorem op_neLen (hu : X.A.units + 64 < cLine) : OpR X (compareOp .NotEq) (rLen X.K true) := by
  intro pins s σ H x y v u Q I rx ry ⟨p, q, xs, ys, e1, e2, h1, h2, hn, k⟩
  subst e1 e2
  cases rx
  cases ry
  obtain ⟨i1, r1, p1, _⟩ := I.list h1
  obtain ⟨i2, r2, p2, _⟩ := I.list h2
  exact SeqAt.RcNeAt.lists_lengths p1.isList p2.isList (by simp only [List.size_toArray, ← r1.length, ← r2.length]; simpa using hn) (by omega) _ _ _ _ ⟨.bl true, H, I, rfl, k⟩
theorem Rep.len_ne {K : PySem.W.Frag} {S : Addr → Prop} {H : Hp} {xs ys : List D} {v w : V} {b : Bool} {Q : VK} (h : xs.length ≠ ys.length) (rd : Rep K S H (.lst xs) v) (re : Rep K S H (.lst ys) w) (k : Q (.bl b) H) : rLen K b v w H Q := by
  obtain ⟨p, vs, rfl, r1, _, q1⟩ := rd
  obtain ⟨q, ws, rfl, r2, _, q2⟩ := re
  exact ⟨p, q, vs, ws, rfl, rfl, r1.sq, r2.sq, by rw [q1.len, q2.len]; exact h, k⟩
theorem v2_eq : V2 G X Wx eqD (fun x y H Q => (rEqD X.K x y H Q ∨ rLen X.K false x y H Q) ∨ rEq x y H Q) := by
  intro c σ ρ H n P PX d e v w Q I rd re ⟨h, q⟩ hg hx
  rcases h with ⟨h1, h2⟩ | h | h
  · exact .inl (.inl ⟨py d, py e, Rep.dp d v (SeqAt.canLay_of_shaped h1) rd, Rep.dp e w (SeqAt.canLay_of_shaped h2) re, h1, h2, hg.at (d := .bl _) q I rfl⟩)
  · obtain ⟨xs, ys, rfl, rfl, hn, he⟩ := difL_eqv h
    refine .inl (.inr (Rep.len_ne hn rd re ?_))
    have q : P (.bl (PyData.eqv (py (.lst xs)) (py (.lst ys)))) n := q
    rw [he] at q
    exact hg.at (d := .bl false) q I rfl
  · unfold strS at h
    split at h
    · rename_i a b
      obtain ⟨rfl, _⟩ := rd
      obtain ⟨rfl, _⟩ := re
      have q : P (.bl (PyData.eqv (py (.str a)) (py (.str b)))) n := q
      have e2 : PyData.eqv (py (.str a)) (py (.str b)) = decide (V.str a = V.str b) := by
        simp only [py, PyData.eqv]
        by_cases z : a = b
        · subst z; simp
        · have z2 : ¬ V.str a = V.str b := fun k => z (by cases k; rfl)
          simp [z]
      rw [e2] at q
      exact .inr ⟨rfl, hg.at (d := .bl _) q I rfl⟩
    · cases h
theorem v2_ne : V2 G X Wx neD (fun x y H Q => (rNeD X.K x y H Q ∨ rLen X.K true x y H Q) ∨ rNe x y H Q) := by
  intro c σ ρ H n P PX d e v w Q I rd re ⟨h, q⟩ hg hx
  rcases h with ⟨h1, h2⟩ | h | h
  · exact .inl (.inl ⟨py d, py e, Rep.dp d v (SeqAt.canLay_of_shaped h1) rd, Rep.dp e w (SeqAt.canLay_of_shaped h2) re, h1, h2, hg.at (d := .bl _) q I rfl⟩)
  · obtain ⟨xs, ys, rfl, rfl, hn, he⟩ := difL_eqv h
    refine .inl (.inr (Rep.len_ne hn rd re ?_))
    have q : P (.bl (!PyData.eqv (py (.lst xs)) (py (.lst ys)))) n := q
    rw [he] at q
    exact hg.at (d := .bl true) q I rfl
  · unfold strS at h
    split at h
    · rename_i a b
      obtain ⟨rfl, _⟩ := rd
      obtain ⟨rfl, _⟩ := re
      have q : P (.bl (!PyData.eqv (py (.str a)) (py (.str b)))) n := q
      have e2 : PyData.eqv (py (.str a)) (py (.str b)) = decide (V.str a = V.str b) := by
        simp only [py, PyData.eqv]
        by_cases z : a = b
        · subst z; simp
        · have z2 : ¬ V.str a = V.str b := fun k => z (by cases k; rfl)
          simp [z]
      rw [e2] at q
      exact .inr ⟨rfl, hg.at (d := .bl _) q I rfl⟩
    · cases h
/-- ints or texts -/
theorem v2_ord {h : D → D → W D} {fi : Int → Int → Bool} {fs : Str → Str → Bool}
    (hh : ∀ d e n P PX, h d e n P PX → (∃ i j, d = .int i ∧ e = .int j ∧ P (.bl (fi i j)) n) ∨ ∃ i j, d = .str i ∧ e = .str j ∧ P (.bl (fs i j)) n) :
    V2 G X Wx h (fun x y H Q => (∃ i j, x = .int i ∧ y = .int j ∧ Q (.bl (fi i j)) H) ∨ ∃ i j, x = .str i ∧ y = .str j ∧ Q (.bl (fs i j)) H) := by
  intro c σ ρ H n P PX d e v w Q I rd re q hg hx
  rcases hh d e n P PX q with ⟨i, j, rfl, rfl, q2⟩ | ⟨i, j, rfl, rfl, q2⟩
  · cases rd; cases re; exact .inl ⟨i, j, rfl, rfl, hg.at (d := .bl (fi i j)) q2 I rfl⟩
  · obtain ⟨rfl, _⟩ := rd; obtain ⟨rfl, _⟩ := re; exact .inr ⟨i, j, rfl, rfl, hg.at (d := .bl (fs i j)) q2 I rfl⟩
theorem v2_lt : V2 G X Wx ltD (fun x y H Q => (∃ i j, x = .int i ∧ y = .int j ∧ Q (.bl (decide (i < j))) H) ∨ ∃ i j, x = .str i ∧ y = .str j ∧ Q (.bl (decide (i.cps.toList < j.cps.toList))) H) :=
  v2_ord (fi := fun i j => decide (i < j)) (fs := fun i j => decide (i.cps.toList < j.cps.toList)) fun d e n P PX q => by
    unfold ltD at q
    split at q
    · exact .inl ⟨_, _, rfl, rfl, q⟩
    · exact .inr ⟨_, _, rfl, rfl, q⟩
    · exact q.elim
theorem v2_le : V2 G X Wx leD (fun x y H Q => (∃ i j, x = .int i ∧ y = .int j ∧ Q (.bl (decide (i ≤ j))) H) ∨ ∃ i j, x = .str i ∧ y = .str j ∧ Q (.bl (!decide (j.cps.toList < i.cps.toList))) H) :=
  v2_ord (fi := fun i j => decide (i ≤ j)) (fs := fun i j => !decide (j.cps.toList < i.cps.toList)) fun d e n P PX q => by
    unfold leD at q
    split at q
    · exact .inl ⟨_, _, rfl, rfl, q⟩
    · exact .inr ⟨_, _, rfl, rfl, q⟩
    · exact q.elim
theorem v2_gt : V2 G X Wx gtD (fun x y H Q => (∃ i j, x = .int i ∧ y = .int j ∧ Q (.bl (decide (j < i))) H) ∨ ∃ i j, x = .str i ∧ y = .str j ∧ Q (.bl (decide (j.cps.toList < i.cps.toList))) H) :=
  v2_ord (fi := fun i j => decide (j < i)) (fs := fun i j => decide (j.cps.toList < i.cps.toList)) fun d e n P PX q => by
    unfold gtD at q
    split at q
    · exact .inl ⟨_, _, rfl, rfl, q⟩
    · exact .inr ⟨_, _, rfl, rfl, q⟩
    · exact q.elim
theorem v2_ge : V2 G X Wx geD (fun x y H Q => (∃ i j, x = .int i ∧ y = .int j ∧ Q (.bl (decide (j ≤ i))) H) ∨ ∃ i j, x = .str i ∧ y = .str j ∧ Q (.bl (!decide (i.cps.toList < j.cps.toList))) H) :=
  v2_ord (fi := fun i j => decide (j ≤ i)) (fs := fun i j => !decide (i.cps.toList < j.cps.toList)) fun d e n P PX q => by
    unfold geD at q
    split at q
    · exact .inl ⟨_, _, rfl, rfl, q⟩
    · exact .inr ⟨_, _, rfl, rfl, q⟩
    · exact q.elim
theorem Rep.isN {K : PySem.W.Frag} {S : Addr → Prop} {H : Hp} {d : D} {v : V} (r : Rep K S H d v) : decide (v = .non) = isNone d := by
  cases d with
  | non => cases r; rfl
  | bl _ => cases r; rfl
  | int _ => cases r; rfl
  | str _ => obtain ⟨rfl, _⟩ := r; rfl
  | lst _ => obtain ⟨_, _, rfl, _⟩ := r; rfl
  | tup _ => obtain ⟨_, _, rfl, _⟩ := r; rfl
  | dic _ => obtain ⟨_, _, rfl, _⟩ := r; rfl
  | ins _ _ _ => obtain ⟨_, _, _, _, rfl, _⟩ := r; rfl
theorem v2_is : V2 G X Wx isND (fun x y H Q => (y = .non ∧ Q (.bl (decide (x = .non))) H) ∨ rIsB x y H Q) := by
  intro c σ ρ H n P PX d e v w Q I rd re q hg hx
  cases e with
  | non => cases re; exact .inl ⟨rfl, by rw [rd.isN]; exact hg.at (d := .bl _) q I rfl⟩
  | bl y =>
    cases d with
    | bl x => cases re; cases rd; exact .inr ⟨x, y, rfl, rfl, hg.at (d := .bl _) q I rfl⟩
    | _ => exact q.elim
  | _ => exact q.elim
theorem v2_isnot : V2 G X Wx notND (fun x y H Q => (y = .non ∧ Q (.bl (!decide (x = .non))) H) ∨ rNotB x y H Q) := by
  intro c σ ρ H n P PX d e v w Q I rd re q hg hx
  cases e with
  | non => cases re; exact .inl ⟨rfl, by rw [rd.isN]; exact hg.at (d := .bl _) q I rfl⟩
  | bl y =>
    cases d with
    | bl x => cases re; cases rd; exact .inr ⟨x, y, rfl, rfl, hg.at (d := .bl _) q I rfl⟩
    | _ => exact q.elim
  | _ => exact q.elim
/-- a comparison's rule: operator, function over data -/
structure Cm (G : PenK) (X : Cx) (Wx : WX) (op : CmpOp) (h : D → D → W D) : Prop where
  ex : ∃ r, OpR X (compareOp op) r ∧ V2 G X Wx h r
theorem cm_eq (hu : X.A.units + 64 < cLine) : Cm G X Wx .Eq eqD := ⟨_, ((op_eqD hu).or (op_eqLen hu)).or op_eq, v2_eq⟩
theorem cm_ne (hu : X.A.units + 64 < cLine) : Cm G X Wx .NotEq neD := ⟨_, ((op_neD hu).or (op_neLen hu)).or op_ne, v2_ne⟩
theorem cm_lt : Cm G X Wx .Lt ltD := ⟨_, op_lt.or op_lt_str, v2_lt⟩
theorem cm_le : Cm G X Wx .LtE leD := ⟨_, op_le.or op_le_str, v2_le⟩
theorem cm_gt : Cm G X Wx .Gt gtD := ⟨_, op_gt.or op_gt_str, v2_gt⟩
theorem cm_ge : Cm G X Wx .GtE geD := ⟨_, op_ge.or op_ge_str, v2_ge⟩
theorem cm_is : Cm G X Wx .Is isND := ⟨_, op_isN.or op_isBl, v2_is⟩
theorem cm_isnot : Cm G X Wx .IsNot notND := ⟨_, op_notN.or op_notBl, v2_isnot⟩
theorem e_cmp {op : CmpOp} {a b : Expr} {pos : Pos} {ga gb : Env → W D} {h : D → D → W D} (m : Cm G X Wx op h) (ha : E G X Wx a ga) (hb : E G X Wx b gb) (hm : behindInMarks op b = false := by rfl) :
    E G X Wx (.Compare a [op] [b] pos) (fun ρ => bnd (ga ρ) fun x => bnd (gb ρ) fun y => h x y) := by
  obtain ⟨r, o, v⟩ := m.ex
  exact e_cmpR o v ha hb hm
def thenB (m : W D) (k : W D) : W D := bnd m fun z => match z with
  | .bl true => k
  | .bl false => ret (.bl false)
  | _ => stuck
def blB : D → W Bool
  | .bl b => ret b
  | _ => stuck
/-- a value's law as a test's -/
theorem tE_test {g : Env → W D} {σ : L2.St} {H : Hp} {Q : Bool → Hp → Prop} (h : tT G X Wx (fun ρ => bnd (g ρ) blB) σ H Q) : tE G X Wx g σ H (fun x H' => ∃ k, x = .bl k ∧ Q k H') := by
  obtain ⟨c, ρ, n, P, PX, I, q, hg, hx⟩ := h
  refine ⟨c, ρ, n, _, PX, I, q, fun d k v S' H' p g I' r => ?_, hx⟩
  cases d with
  | bl b => cases r; exact ⟨b, rfl, hg b k S' H' p g I'⟩
  | _ => exact p.elim
theorem tOp_law {ga gb : Env → W D} {h : D → D → W D} {r : R2} (v : V2 G X Wx h r) {σ : L2.St} {H : Hp} {Q : VK} (hh : tE G X Wx (fun ρ => bnd (ga ρ) fun x => bnd (gb ρ) fun y => h x y) σ H Q) : tOp r (tE G X Wx ga) (tE G X Wx gb) σ H Q := by
  obtain ⟨c, ρ, n, P, PX, I, q, hg, hx⟩ := hh
  exact tE.bnd I q hx fun d k u S' H' p g I' hx' r' =>
    tE.bnd I' p hx' fun d2 k2 u2 S2 H2 p2 g2 I2 hx2 r2 => v _ σ ρ H2 k2 P PX d d2 u u2 Q I2 (Rep.grow g2 _ _ r') r2 p2 (hg.grow (g.trans g2)) hx2
/-- a test a < b -/
theorem t_cmp {op : CmpOp} {a b : Expr} {pos : Pos} {ga gb : Env → W D} {h : D → D → W D} (m : Cm G X Wx op h) (ha : E G X Wx a ga) (hb : E G X Wx b gb) (hm : behindInMarks op b = false := by rfl) :
    T G X Wx (.Compare a [op] [b] pos) (fun ρ => bnd (bnd (ga ρ) fun x => bnd (gb ρ) fun y => h x y) blB) := by
  obtain ⟨r, o, v⟩ := m.ex
  exact weakT (pt_cmpR o ha hb hm) fun σ H Q q => tOp_law v (tE_test q)
theorem tChain_law {ga gb gd : Env → W D} {h h' : D → D → W D} {r r' : R2} (v : V2 G X Wx h r) (v' : V2 G X Wx h' r') {σ : L2.St} {H : Hp} {Q : VK} (hh : tE G X Wx (fun ρ => bnd (ga ρ) fun x => bnd (gb ρ) fun y => thenB (h x y) (bnd (gd ρ) fun z => h' y z)) σ H Q) : tChain r r' (tE G X Wx ga) (tE G X Wx gb) (tE G X Wx gd) σ H Q := by
  obtain ⟨c, ρ, n, P, PX, I, q, hg, hx⟩ := hh
  refine tE.bnd I q hx fun d1 k u S' H' p g I' hx' r1 =>
    tE.bnd I' p hx' fun d2 k2 u2 S2 H2 p2 g2 I2 hx2 r2 => v _ σ ρ H2 k2 (fun z k => (match z with
      | .bl true => bnd (gd ρ) fun z => h' d2 z
      | .bl false => ret (.bl false)
      | _ => stuck : W D) k P PX) PX d1 d2 u u2 _ I2 (Rep.grow g2 _ _ r1) r2 p2 (fun z k3 w S3 H3 p3 g3 I3 r3 => ?_) hx2
  cases z with
  | bl b =>
    cases r3
    cases b with
    | true => exact ⟨true, rfl, iteT (tE.bnd I3 p3 (hx2.grow g3) fun d4 k4 u4 S4 H4 p4 g4 I4 hx4 r4 => v' _ σ ρ H4 k4 P PX d2 d4 u2 u4 Q I4 (Rep.grow (g3.trans g4) _ _ r2) r4 p4 (hg.grow (g.trans (g2.trans (g3.trans g4)))) hx4)⟩
    | false => exact ⟨false, rfl, iteF ((hg.grow (g.trans (g2.trans g3))).at (d := .bl false) p3 I3 rfl)⟩
  | _ => exact p3.elim
/-- a < b < c -/
theorem e_chain {op op' : CmpOp} {a b d : Expr} {pos : Pos} {ga gb gd : Env → W D} {h h' : D → D → W D} (m : Cm G X Wx op h) (m' : Cm G X Wx op' h') (ha : E G X Wx a ga) (hb : E G X Wx b gb) (hd : E G X Wx d gd)
    (hm : lastMarks [op, op'] [b, d] = false := by with_unfolding_all rfl) :
    E G X Wx (.Compare a [op, op'] [b, d] pos) (fun ρ => bnd (ga ρ) fun x => bnd (gb ρ) fun y => thenB (h x y) (bnd (gd ρ) fun z => h' y z)) := by
  obtain ⟨r, o, v⟩ := m.ex
  obtain ⟨r', o', v'⟩ := m'.ex
  exact weakE (pe_chain o o' ha hb hd hm) fun σ H Q q => tChain_law v v' q
/-- a test a < b < c -/
theorem t_chain {op op' : CmpOp} {a b d : Expr} {pos : Pos} {ga gb gd : Env → W D} {h h' : D → D → W D} (m : Cm G X Wx op h) (m' : Cm G X Wx op' h') (ha : E G X Wx a ga) (hb : E G X Wx b gb) (hd : E G X Wx d gd)
    (hm : lastMarks [op, op'] [b, d] = false := by with_unfolding_all rfl) :
    T G X Wx (.Compare a [op, op'] [b, d] pos) (fun ρ => bnd (bnd (ga ρ) fun x => bnd (gb ρ) fun y => thenB (h x y) (bnd (gd ρ) fun z => h' y z)) blB) := by
  obtain ⟨r, o, v⟩ := m.ex
  obtain ⟨r', o', v'⟩ := m'.ex
  exact weakT (pt_chain o o' ha hb hd hm) fun σ H Q q => tChain_law v v' (tE_test q)
end
end PL

/-! The layer: truth, displays, subscripts, slices, arguments, built-ins. -/
namespace PL
open PySem PySem.Spec L2

section
variable {G : PenK} {X : Cx} {Wx : WX}

/-! ### truth -/
theorem Rep.tru {K : PySem.W.Frag} {S : Addr → Prop} {H : Hp} {d : D} {v : V} {n : Nt} {P : Bool → Nt → Prop} {PX : Exc → Nt → Prop} (r : Rep K S H d v) (q : PL.tru d n P PX) : ∃ b, TruV K v H b ∧ P b n := by
  cases d with
  | non => cases r; exact ⟨_, rfl, q⟩
  | bl _ => cases r; exact ⟨_, rfl, q⟩
  | int _ => cases r; exact ⟨_, rfl, q⟩
  | str _ => obtain ⟨rfl, z⟩ := r; exact ⟨_, ⟨z, rfl⟩, q⟩
  | lst xs =>
    obtain ⟨a, vs, rfl, r1, _, q1⟩ := r
    refine ⟨!xs.isEmpty, .inl ⟨vs, r1.sq, ?_⟩, q⟩
    have := q1.len
    cases xs <;> cases vs <;> first | rfl | cases this
  | tup xs =>
    obtain ⟨a, vs, rfl, r1, _, q1⟩ := r
    refine ⟨!xs.isEmpty, .inr (.inl ⟨vs, r1.sq, ?_⟩), q⟩
    have := q1.len
    cases xs <;> cases vs <;> first | rfl | cases this
  | dic kvs =>
    exact q.elim
  | ins _ _ _ => exact q.elim
theorem t_truth {e : Expr} {g : Env → W D} (h : E G X Wx e g) (he : ∀ whole, isTrue e X.env whole = (do let v ← whole; standAt e.pos; holding [v] (truthy v)) := by intro _; rfl) : T G X Wx e (fun ρ => bnd (g ρ) tru) :=
  weakT (pt_truth h he) fun σ H Q ⟨c, ρ, n, P, PX, I, q, hg, hx⟩ => tE.bnd I q hx fun d k u S' H' p g I' hx' r => by
    obtain ⟨b, h1, h2⟩ := r.tru p
    exact ⟨b, h1, hg b k S' H' h2 g I'⟩
theorem t_not {e : Expr} {pos : Pos} {g : Env → W Bool} (h : T G X Wx e g) : T G X Wx (.UnaryOp .Not e pos) (fun ρ => bnd (g ρ) fun b => ret (!b)) :=
  weakT (pt_not h) fun σ H Q ⟨c, ρ, n, P, PX, I, q, hg, hx⟩ => tT.bnd I q hx fun b k S' H' p g I' hx' => hg (!b) k S' H' p g I'
def TW (G : PenK) (X : Cx) (Wx : WX) (e : Expr) (g : Env → W Bool) : Prop := PW X e (tT G X Wx g)
theorem tw_and1 {e : Expr} {pos : Pos} {g : Env → W Bool} (h : T G X Wx e g) : TW G X Wx (.BoolOp .And [e] pos) g := pw_and1 h
theorem tw_or1 {e : Expr} {pos : Pos} {g : Env → W Bool} (h : T G X Wx e g) : TW G X Wx (.BoolOp .Or [e] pos) g := pw_or1 h
theorem tw_and {a b : Expr} {rest : List Expr} {pos : Pos} {ga gb : Env → W Bool} (ha : T G X Wx a ga) (hb : TW G X Wx (.BoolOp .And (b :: rest) pos) gb) :
    TW G X Wx (.BoolOp .And (a :: b :: rest) pos) (fun ρ => bnd (ga ρ) fun x => if x = true then gb ρ else ret false) :=
  weakW (pw_and ha hb) fun σ H Q ⟨c, ρ, n, P, PX, I, q, hg, hx⟩ => tT.bnd I q hx fun b k S' H' p g I' hx' => by
    cases b with
    | true => exact iteT ⟨_, ρ, k, P, PX, I', p, hg.grow g, hx'⟩
    | false => exact iteF (hg false k S' H' p g I')
theorem tw_or {a b : Expr} {rest : List Expr} {pos : Pos} {ga gb : Env → W Bool} (ha : T G X Wx a ga) (hb : TW G X Wx (.BoolOp .Or (b :: rest) pos) gb) :
    TW G X Wx (.BoolOp .Or (a :: b :: rest) pos) (fun ρ => bnd (ga ρ) fun x => if x = true then ret true else gb ρ) :=
  weakW (pw_or ha hb) fun σ H Q ⟨c, ρ, n, P, PX, I, q, hg, hx⟩ => tT.bnd I q hx fun b k S' H' p g I' hx' => by
    cases b with
    | true => exact iteT (hg true k S' H' p g I')
    | false => exact iteF ⟨_, ρ, k, P, PX, I', p, hg.grow g, hx'⟩
theorem TW.t {e : Expr} {g : Env → W Bool} (h : TW G X Wx e g) : T G X Wx e g := PW.pt h
/-- and, or as values -/
theorem e_one {op} {a : Expr} {pos : Pos} {g : Env → W D} (h : E G X Wx a g) : E G X Wx (.BoolOp op [a] pos) g := pe_one h
theorem e_and {a b : Expr} {rest : List Expr} {pos : Pos} {ga gb : Env → W D} (ha : E G X Wx a ga) (hb : E G X Wx (.BoolOp .And (b :: rest) pos) gb) :
    E G X Wx (.BoolOp .And (a :: b :: rest) pos) (fun ρ => bnd (ga ρ) fun x => bnd (tru x) fun k => if k = true then gb ρ else ret x) :=
  weakE (pe_andT ha hb) fun σ H Q ⟨c, ρ, n, P, PX, I, q, hg, hx⟩ => tE.bnd I q hx fun d k u S' H' p g I' hx' r => by
    obtain ⟨b, h1, h2⟩ := r.tru p
    refine ⟨b, h1, ?_⟩
    cases b with
    | true => exact iteT ⟨_, ρ, k, P, PX, I', h2, hg.grow g, hx'⟩
    | false => exact iteF (hg d k u S' H' h2 g I' r)
theorem e_not {a : Expr} {pos : Pos} {ga : Env → W D} (ha : E G X Wx a ga) : E G X Wx (.UnaryOp .Not a pos) (fun ρ => bnd (ga ρ) fun x => bnd (tru x) fun k => ret (.bl (!k))) :=
  weakE (pe_notT ha) fun σ H Q ⟨c, ρ, n, P, PX, I, q, hg, hx⟩ => tE.bnd I q hx fun d k u S' H' p g I' hx' r => by
    obtain ⟨b, h1, h2⟩ := r.tru p
    exact ⟨b, h1, hg (.bl (!b)) k _ S' H' h2 g I' rfl⟩
theorem e_if {t a b : Expr} {pos : Pos} {gt : Env → W Bool} {ga gb : Env → W D} (ht : T G X Wx t gt) (ha : E G X Wx a ga) (hb : E G X Wx b gb) :
    E G X Wx (.IfExp t a b pos) (fun ρ => bnd (gt ρ) fun x => if x = true then ga ρ else gb ρ) :=
  weakE (pe_ifExp ht ha hb) fun σ H Q ⟨c, ρ, n, P, PX, I, q, hg, hx⟩ => tT.bnd I q hx fun b k S' H' p g I' hx' => by
    cases b with
    | true => exact iteT ⟨_, ρ, k, P, PX, I', p, hg.grow g, hx'⟩
    | false => exact iteF ⟨_, ρ, k, P, PX, I', p, hg.grow g, hx'⟩

/-! ### arguments, displays -/
theorem a_nil : A G X Wx [] (fun _ => ret []) := weakA pa_nil fun σ H Q ⟨c, ρ, n, P, PX, I, q, hg, hx⟩ => hg [] n [] c.S H q .refl I rfl
theorem a_cons {e : Expr} {es : List Expr} {g : Env → W D} {gs : Env → W (List D)} (h : E G X Wx e g) (hs : A G X Wx es gs) (hp : starEach (e :: es) X.env = (false, eval e X.env) :: starEach es X.env := by rfl) :
    A G X Wx (e :: es) (fun ρ => bnd (g ρ) fun x => bnd (gs ρ) fun xs => ret (x :: xs)) :=
  weakA (pa_cons h hs hp) fun σ H Q ⟨c, ρ, n, P, PX, I, q, hg, hx⟩ => tE.bnd I q hx fun d k u S' H' p g I' hx' r => tAr.bnd I' p hx' fun ds k2 us S2 H2 p2 g2 I2 hx2 r2 =>
    hg (d :: ds) k2 (u :: us) S2 H2 p2 (g.trans g2) I2 ⟨u, us, rfl, Rep.grow g2 _ _ r, r2⟩
def few (xs : List D) (m : W α) : W α := grd (xs.length ≤ sizeLine) m
theorem e_tup {es : List Expr} {x1 : Nat} {pos : Pos} {gs : Env → W (List D)} (h : A G X Wx es gs) : E G X Wx (.Tuple es x1 pos) (fun ρ => bnd (gs ρ) fun xs => few xs (ret (.tup xs))) :=
  weakE (pe_tupZ h) fun σ H Q ⟨c, ρ, n, P, PX, I, q, hg, hx⟩ => tAr.bnd I q hx fun ds k us S' H' ⟨z, p⟩ g I' hx' r => ⟨by rw [r.len]; exact z, fun a o ha hd =>
    (hg.grow g).new p I' ha fun g2 => ⟨a, us, rfl, .inl ⟨.inr rfl, o, upd_same, hd⟩, z, Reps.grow g2 _ _ r⟩⟩
theorem o_lst {es : List Expr} {pos : Pos} {gs : Env → W (List D)} (h : A G X Wx es gs) : EO G X Wx (.List es pos) (fun ρ => bnd (gs ρ) fun xs => few xs (ret xs)) :=
  weakE (pe_lst h) fun σ H Q ⟨c, ρ, n, P, PX, I, q, hg, hx⟩ => tAr.bnd I q hx fun ds k us S' H' ⟨z, p⟩ g I' hx' r => ⟨by rw [r.len]; exact z, fun a ha =>
    (hg.grow g).new p I' ha z r⟩

/-! ### subscripts, slices -/
theorem atI_len {α β : Type} {xs : List α} {ys : List β} {i : Int} {y : β} (e : xs.length = ys.length) (h : atI ys i = some y) : ∃ j : Nat, ys[j]? = some y ∧ ∀ x : α, xs[j]? = some x → atI xs i = some x := by
  unfold atI at *
  cases q : ixN ys.length i with
  | none => rw [q] at h; cases h
  | some j =>
    rw [q] at h
    exact ⟨j, h, fun x hx => by rw [e, q]; exact hx⟩
theorem v2_ix : V2 G X Wx ixD (rIx X.K) := by
  intro c σ ρ H n P PX d e v w Q I rd re q hg hx
  cases e with
  | int i =>
    cases re
    cases d with
    | lst xs =>
      obtain ⟨a, vs, rfl, r1, _, q1⟩ := rd
      have q : (match atI xs i with | some x => ret x | none => stuck : W D) n P PX := q
      cases hx : atI xs i with
      | none => rw [hx] at q; exact q.elim
      | some x =>
        rw [hx] at q
        obtain ⟨j, e1, e2⟩ := atI_len q1.len hx
        obtain ⟨u, h1, h2⟩ := Reps.at q1 e1
        exact .inl ⟨a, vs, _, u, rfl, rfl, r1.sq, e2 u h1, hg.at q I h2⟩
    | tup xs =>
      obtain ⟨a, vs, rfl, r1, _, q1⟩ := rd
      have q : (match atI xs i with | some x => ret x | none => stuck : W D) n P PX := q
      cases hx : atI xs i with
      | none => rw [hx] at q; exact q.elim
      | some x =>
        rw [hx] at q
        obtain ⟨j, e1, e2⟩ := atI_len q1.len hx
        obtain ⟨u, h1, h2⟩ := Reps.at q1 e1
        exact .inr (.inl ⟨a, vs, _, u, rfl, rfl, r1.sq, e2 u h1, hg.at q I h2⟩)
    | str z =>
      obtain ⟨rfl, hz⟩ := rd
      have q : (match atI z.cps.toList i with | some k => ret (.str ⟨#[k]⟩) | none => stuck : W D) n P PX := q
      cases hx : atI z.cps.toList i with
      | none => rw [hx] at q; exact q.elim
      | some k =>
        rw [hx] at q
        exact .inr (.inr ⟨_, _, k, rfl, rfl, hz, hx, hg.at (d := .str ⟨#[k]⟩) q I ⟨rfl, by rw [sizeLine_eq]; show 1 ≤ 16777216; decide⟩⟩)
    | _ => exact q.elim
  | _ => cases d <;> exact q.elim
theorem e_ix {a b : Expr} {pos : Pos} {ga gb : Env → W D} (ha : E G X Wx a ga) (hb : E G X Wx b gb) (hs : PlainIx b := by intro _ _; rfl) : E G X Wx (.Subscript a b pos) (fun ρ => bnd (ga ρ) fun x => bnd (gb ρ) fun y => ixD x y) :=
  two_parts v2_ix ha hb (pe_ix ix_seq ha hb hs)
/-- a part of a slice -/
def PP (G : PenK) (X : Cx) (Wx : WX) (e : Option Expr) (g : Env → W (Option Int)) : Prop :=
  ∃ t, PO X e t ∧ ∀ c ρ n P PX σ H Q, SI G X.K c σ H ρ n → g ρ n P PX → OKx G X Wx c σ ρ H PX → (∀ o k S' H', P o k → Grow c.S S' H H' → SI G X.K (c.to S') σ H' ρ k → Q o H') → t σ H Q
theorem p_none : PP G X Wx none (fun _ => ret none) := ⟨_, po_none, fun c ρ n P PX σ H Q I q hx hg => hg none n c.S H q .refl I⟩
def intO : D → W (Option Int)
  | .int i => ret (some i)
  | _ => stuck
theorem p_some {e : Expr} {g : Env → W D} (h : E G X Wx e g) : PP G X Wx (some e) (fun ρ => bnd (g ρ) intO) :=
  ⟨_, po_some h, fun c ρ n P PX σ H Q I q hx hg => tE.bnd I q hx fun d k u S' H' p g I' hx' r => by
    cases d with
    | int i => cases r; exact ⟨i, rfl, hg (some i) k S' H' p g I'⟩
    | _ => exact p.elim⟩
def slD (d : D) (lo hi : Option Int) : W D := match d with
  | .tup xs => ret (.tup (cutD xs lo hi))
  | .str z => ret (.str (cutS z lo hi))
  | .lst xs => ret (.lst (cutD xs lo hi))
  | _ => stuck
theorem Reps.cut {K : PySem.W.Frag} {S : Addr → Prop} {H : Hp} {xs : List D} {vs : List V} {lo hi : Option Int} (r : Reps K S H xs vs) : Reps K S H (cutD xs lo hi) (cutV vs lo hi) := by
  unfold cutD cutV
  rw [r.len]
  exact Reps.take _ (Reps.drop _ r)
theorem cutD_len {α : Type} (xs : List α) (lo hi : Option Int) : (cutD xs lo hi).length ≤ xs.length := by
  unfold cutD
  rw [List.length_take, List.length_drop]
  omega
theorem cutD_all {α : Type} {xs : List α} {lo hi : Option Int} (h : HT.sIx xs.length 0 lo = 0 ∧ HT.sIx xs.length xs.length hi = xs.length) : cutD xs lo hi = xs := by
  unfold cutD
  rw [h.1, h.2]
  exact List.take_length
theorem e_sl {e : Expr} {lo hi : Option Expr} {p2 pos : Pos} {g : Env → W D} {gl gh : Env → W (Option Int)} (h : E G X Wx e g) (hl : PP G X Wx lo gl) (hh : PP G X Wx hi gh) :
    E G X Wx (.Subscript e (.Slice lo hi none p2) pos) (fun ρ => bnd (g ρ) fun x => bnd (gl ρ) fun i => bnd (gh ρ) fun j => slD x i j) := by
  obtain ⟨tl, hl1, hl2⟩ := hl
  obtain ⟨th, hh1, hh2⟩ := hh
  refine weakE (pe_slice (sl_tupZ.or (sl_str.or sl_list)) h hl1 hh1) fun σ H Q ⟨c, ρ, n, P, PX, I, q, hg, hx⟩ => tE.bnd I q hx fun d k u S' H' p g I' hx' r =>
    hl2 _ ρ k (fun i k => bnd (gh ρ) (fun j => slD d i j) k P PX) PX σ H' _ I' p hx' fun i k2 S2 H2 p2 g2 I2 => hh2 _ ρ k2 (fun j k => slD d i j k P PX) PX σ H2 _ I2 p2 (hx'.grow g2) fun j k3 S3 H3 p3 g3 I3 => ?_
  have r3 := Rep.grow (g2.trans g3) _ _ r
  have hg3 := hg.grow (g.trans (g2.trans g3))
  cases d with
  | tup xs =>
    obtain ⟨a, vs, rfl, r1, z, q1⟩ := id r3
    refine .inl ⟨a, vs, rfl, r1.sq, fun hw => ?_, fun _ b o hb hd => hg3.new p3 I3 hb fun g4 => ⟨b, _, rfl, .inl ⟨.inr rfl, o, upd_same, hd⟩, Nat.le_trans (cutD_len _ _ _) z, Reps.grow g4 _ _ q1.cut⟩⟩
    rw [q1.len] at hw
    have p3' : P (.tup (cutD xs i j)) k3 := p3
    rw [cutD_all hw] at p3'
    exact hg3.at p3' I3 r3
  | str z =>
    obtain ⟨rfl, hz⟩ := r3
    exact .inr (.inl ⟨z, rfl, hz, hg3.at (d := .str (cutS z i j)) p3 I3 ⟨rfl, Nat.le_trans (cutS_length z i j) hz⟩⟩)
  | lst xs =>
    obtain ⟨a, vs, rfl, r1, z, q1⟩ := r3
    exact .inr (.inr ⟨a, vs, rfl, r1.sq, fun b hb => hg3.new p3 I3 hb fun g4 => ⟨b, _, rfl, ⟨.inr rfl, upd_same⟩, Nat.le_trans (cutD_len _ _ _) z, Reps.grow g4 _ _ q1.cut⟩⟩)
  | _ => exact p3.elim
/-! ### calls of built-ins -/
theorem e_callB {x : Str} {p pos : Pos} {id : String} {e : Expr} {es : List Expr} {r : List V → Hp → VK → Prop} {gs : Env → W (List D)} {h : List D → W D} (hm : X.mg x = none) (hv : bootBuiltins x = some (.builtin id)) (o : CallR X (.builtin id) r) (v : VA G X Wx h r) (ha : A G X Wx (e :: es) gs)
    (hg : Gl X x := by rfl) (hn : x ≠ "__name__" := by decide) (hdb : (x == ("__debug__" : Str)) = false := by decide) (he : starEach (e :: es) X.env = (false, eval e X.env) :: starEach es X.env := by rfl) (hpl : (backTo pos (starEach es X.env)).any (·.1) = false := by rfl) :
    E G X Wx (.Call (.Name x p) (e :: es) [] pos) (fun ρ => bnd (gs ρ) h) :=
  weakE (pe_callB o hg hm hv ha hn hdb he hpl) fun σ H Q ⟨c, ρ, n, P, PX, I, q, hg, hx⟩ => tAr.bnd I q hx fun ds k us S' H' p g I' hx' r => v _ σ ρ H' k P PX ds us Q I' r p (hg.grow g) hx'
theorem e_callT {x : Str} {p pos : Pos} {T : String} {e : Expr} {es : List Expr} {r : List V → Hp → VK → Prop} {gs : Env → W (List D)} {h : List D → W D} (hm : X.mg x = none) (hv : bootBuiltins x = some (.type T)) (o : CallR X (.type T) r) (v : VA G X Wx h r) (ha : A G X Wx (e :: es) gs)
    (hg : Gl X x := by rfl) (hn : x ≠ "__name__" := by decide) (hdb : (x == ("__debug__" : Str)) = false := by decide) (he : starEach (e :: es) X.env = (false, eval e X.env) :: starEach es X.env := by rfl) (hpl : (backTo pos (starEach es X.env)).any (·.1) = false := by rfl) :
    E G X Wx (.Call (.Name x p) (e :: es) [] pos) (fun ρ => bnd (gs ρ) h) :=
  weakE (pe_callTy o hg hm hv ha hn hdb he hpl) fun σ H Q ⟨c, ρ, n, P, PX, I, q, hg, hx⟩ => tAr.bnd I q hx fun ds k us S' H' p g I' hx' r => v _ σ ρ H' k P PX ds us Q I' r p (hg.grow g) hx'
theorem Reps.one_inv {K : PySem.W.Frag} {S : Addr → Prop} {H : Hp} {x : D} {vs : List V} (r : Reps K S H [x] vs) : ∃ v, vs = [v] ∧ Rep K S H x v := by
  obtain ⟨v, ws, rfl, r, e⟩ := r
  have e : ws = [] := e
  rw [e]
  exact ⟨v, rfl, r⟩
theorem va_one {f : D → W D} {r : V → Hp → VK → Prop} {r' : List V → Hp → VK → Prop} (v : V1 G X Wx f r) (h : ∀ x H Q, r x H Q → r' [x] H Q) : VA G X Wx (one f) r' := by
  intro c σ ρ H n P PX ds vs Q I rs q hg hx
  cases ds with
  | nil => exact q.elim
  | cons d ds =>
    cases ds with
    | nil =>
      obtain ⟨u, rfl, r⟩ := rs.one_inv
      exact h u H Q (v c σ ρ H n P PX d u Q I r q hg hx)
    | cons _ _ => exact q.elim
theorem RepK.len {K : PySem.W.Frag} {S : Addr → Prop} {H : Hp} : ∀ {xs : List (Key × D)} {vs : List (Key × V)}, RepK K S H xs vs → vs.length = xs.length
  | [], _, h => by
    have e : _ = [] := h
    rw [e]
    rfl
  | (k, x) :: xs, _, h => by
    obtain ⟨v, ws, rfl, _, q⟩ := h
    show ws.length + 1 = xs.length + 1
    rw [RepK.len q]
theorem call_lenR : CallR X (.builtin "len") (fun xs H Q => ∃ a kvs, xs = [V.ref a] ∧ Rd H a (.dK kvs) ∧ Q (.int kvs.length) H) := by
  intro pins s σ H xs us Q I r q
  obtain ⟨a, kvs, ex, e, q⟩ := q
  subst ex
  obtain ⟨u, eu, rx⟩ := vals1 r
  subst eu
  cases rx
  exact d_len I e fun t s' I' => ⟨.int kvs.length, H, I', ⟨t, rfl⟩, q⟩
theorem e_len {p pos : Pos} {e : Expr} {g : Env → W D} (hm : X.mg "len" = none) (h : E G X Wx e g) (hg : Gl X "len" := by rfl) (he : starEach [e] X.env = (false, eval e X.env) :: starEach [] X.env := by rfl) :
    E G X Wx (.Call (.Name "len" p) [e] [] pos) (fun ρ => bnd (bnd (g ρ) fun x => bnd (ret []) fun xs => ret (x :: xs)) (one lenD)) :=
  e_callB hm PySem.boot_len (call_len.or call_lenR) (va_one (r := fun x H Q => (∃ n : Nat, LenV X.K x H n ∧ Q (.int n) H) ∨ ∃ d kvs, x = .ref d ∧ Rd H d (.dK kvs) ∧ Q (.int kvs.length) H) (by
    intro c σ ρ H n P PX d v Q I r q hg hx
    cases d with
    | lst xs => obtain ⟨a, vs, rfl, r1, _, q1⟩ := r; exact .inl ⟨xs.length, .inl ⟨vs, r1.sq, q1.len.symm⟩, hg.at (d := .int xs.length) q I rfl⟩
    | tup xs => obtain ⟨a, vs, rfl, r1, _, q1⟩ := r; exact .inl ⟨xs.length, .inr ⟨vs, r1.sq, q1.len.symm⟩, hg.at (d := .int xs.length) q I rfl⟩
    | str x => obtain ⟨rfl, z⟩ := r; exact .inl ⟨x.length, ⟨z, rfl⟩, hg.at (d := .int x.length) q I rfl⟩
    | dic kvs => obtain ⟨a, kws, rfl, r1, q1⟩ := r; exact .inr ⟨a, kws, rfl, r1.2, by rw [q1.len]; exact hg.at (d := .int kvs.length) q I rfl⟩
    | _ => exact q.elim) fun x H Q h => h.elim (fun ⟨n, h1, h2⟩ => .inl ⟨x, n, rfl, h1, h2⟩) fun ⟨d, kvs, h1, h2, h3⟩ => .inr ⟨d, kvs, by rw [h1], h2, h3⟩) (a_cons h a_nil he) hg (by decide) (by decide) he (by rfl)
end
end PL

/-! The layer: statements, targets, walks, loops, comprehensions. -/
namespace PL
open PySem PySem.Spec L2

/-! ### targets -/
inductive Tg where
  | nm (i : Nat) | tp (ts : List Tg)
mutual
def setT : Tg → D → Env → W Env
  | .nm i, x, ρ => ret (ρ.set i (.d x))
  | .tp ts, .tup xs, ρ => grd (xs.length = ts.length) (setTs ts xs ρ)
  | .tp ts, .lst xs, ρ => grd (xs.length = ts.length) (setTs ts xs ρ)
  | .tp _, _, _ => stuck
def setTs : List Tg → List D → Env → W Env
  | [], [], ρ => ret ρ
  | t :: ts, x :: xs, ρ => bnd (setT t x ρ) fun ρ' => setTs ts xs ρ'
  | _, _, _ => stuck
end
mutual
def Tg.ix : Tg → List Nat
  | .nm i => [i]
  | .tp ts => Tg.ixs ts
def Tg.ixs : List Tg → List Nat
  | [] => []
  | t :: ts => t.ix ++ Tg.ixs ts
end
/-- only the slots vs may differ -/
def But (vs : List Nat) (σ σ' : L2.St) : Prop := σ'.length = σ.length ∧ ∀ i, i ∉ vs → σ'[i]? = σ[i]?
def ButE (vs : List Nat) (ρ ρ' : Env) : Prop := ρ'.length = ρ.length ∧ ∀ i, i ∉ vs → ρ'[i]? = ρ[i]?

section
variable {G : PenK} {X : Cx} {Wx : WX}

mutual
def gT (K : PySem.W.Frag) : Tg → TG
  | .nm i => gName i
  | .tp ts => fun v σ H Q => gTup K ts.length (gTs K ts) v σ H Q ∨ gUnl K ts.length (gTs K ts) v σ H Q
def gTs (K : PySem.W.Frag) : List Tg → TGs
  | [] => gNil
  | t :: ts => gCons (gT K t) (gTs K ts)
end
def PTg (X : Cx) (tg : Expr) (t : Tg) : Prop := PG X tg (gT X.K t)
def PTgs (X : Cx) (tgs : List Expr) (ts : List Tg) : Prop := PGs X tgs (gTs X.K ts)
theorem But.set {σ : L2.St} {i : Nat} {o : Option V} : But [i] σ (σ.set i o) := ⟨by rw [List.length_set], fun j h => by rw [List.getElem?_set_ne (fun e => h (by rw [e]; exact List.mem_singleton.mpr rfl))]⟩
theorem ButE.set {ρ : Env} {i : Nat} {o : SV} : ButE [i] ρ (ρ.set i o) := ⟨by rw [List.length_set], fun j h => by rw [List.getElem?_set_ne (fun e => h (by rw [e]; exact List.mem_singleton.mpr rfl))]⟩
theorem But.app {σ σ1 σ2 : L2.St} {vs ws : List Nat} (a : But vs σ σ1) (b : But ws σ1 σ2) : But (vs ++ ws) σ σ2 :=
  ⟨b.1.trans a.1, fun i h => (b.2 i fun z => h (List.mem_append_right _ z)).trans (a.2 i fun z => h (List.mem_append_left _ z))⟩
theorem ButE.app {σ σ1 σ2 : Env} {vs ws : List Nat} (a : ButE vs σ σ1) (b : ButE ws σ1 σ2) : ButE (vs ++ ws) σ σ2 :=
  ⟨b.1.trans a.1, fun i h => (b.2 i fun z => h (List.mem_append_right _ z)).trans (a.2 i fun z => h (List.mem_append_left _ z))⟩
mutual
theorem gT_ok {K : PySem.W.Frag} : ∀ (t : Tg) {c : C} {σ : L2.St} {ρ : Env} {H : Hp} {n : Nt} {P : Env → Nt → Prop} {PX : Exc → Nt → Prop} {d : D} {v : V} {Q : L2.St → Hp → Prop}, SI G K c σ H ρ n → Rep K c.S H d v → setT t d ρ n P PX →
    (∀ ρ' k σ', P ρ' k → SI G K c σ' H ρ' k → But t.ix σ σ' → ButE t.ix ρ ρ' → Q σ' H) → gT K t v σ H Q
  | .nm i, c, σ, ρ, H, n, P, PX, d, v, Q, I, r, q, h => h _ n _ q (I.set r) But.set ButE.set
  | .tp ts, c, σ, ρ, H, n, P, PX, d, v, Q, I, r, q, h => by
    cases d with
    | tup xs =>
      obtain ⟨a, vs, rfl, r1, z, r2⟩ := r
      exact .inl ⟨a, vs, rfl, r1.sq, r2.len.trans q.1, gTs_ok ts I r2 q.2 h⟩
    | lst xs =>
      obtain ⟨a, vs, rfl, r1, z, r2⟩ := r
      exact .inr ⟨a, vs, rfl, r1.sq, r2.len.trans q.1, gTs_ok ts I r2 q.2 h⟩
    | _ => exact q.elim
theorem gTs_ok {K : PySem.W.Frag} : ∀ (ts : List Tg) {c : C} {σ : L2.St} {ρ : Env} {H : Hp} {n : Nt} {P : Env → Nt → Prop} {PX : Exc → Nt → Prop} {ds : List D} {vs : List V} {Q : L2.St → Hp → Prop}, SI G K c σ H ρ n → Reps K c.S H ds vs → setTs ts ds ρ n P PX →
    (∀ ρ' k σ', P ρ' k → SI G K c σ' H ρ' k → But (Tg.ixs ts) σ σ' → ButE (Tg.ixs ts) ρ ρ' → Q σ' H) → gTs K ts vs σ H Q
  | [], c, σ, ρ, H, n, P, PX, ds, vs, Q, I, r, q, h => by
    cases ds with
    | nil =>
      have e : vs = [] := r
      exact ⟨e, h ρ n σ q I ⟨rfl, fun _ _ => rfl⟩ ⟨rfl, fun _ _ => rfl⟩⟩
    | cons _ _ => exact q.elim
  | t :: ts, c, σ, ρ, H, n, P, PX, ds, vs, Q, I, r, q, h => by
    cases ds with
    | nil => exact q.elim
    | cons d ds =>
      obtain ⟨v, ws, rfl, r1, r2⟩ := r
      exact ⟨v, ws, rfl, gT_ok t I r1 q fun ρ1 k1 σ1 q1 I1 b1 e1 => gTs_ok ts I1 r2 q1 fun ρ2 k2 σ2 q2 I2 b2 e2 => h ρ2 k2 σ2 q2 I2 (b1.app b2) (e1.app e2)⟩
end
theorem g_nm {x : Str} {pos : Pos} (i : Nat) (hN : X.N.Nodup) (hi : X.N[i]? = some x := by rfl) (hx : Loc X.env.scope x := by first | exact Or.inl rfl | exact Or.inr rfl) (hf : X.fn x = true ∨ X.env.scope.names.lookup x = some .local := by first | exact .inl rfl | exact .inr rfl) : PTg X (.Name x pos) (.nm i) := pg_name hN hi hx hf
theorem gs_nil : PTgs X [] [] := pgs_nil
theorem gs_cons {tg : Expr} {tgs : List Expr} {t : Tg} {ts : List Tg} (h1 : PTg X tg t) (h2 : PTgs X tgs ts)
    (ht : (assignEach (tg :: tgs) X.env).map (·.2) = assign tg X.env :: (assignEach tgs X.env).map (·.2) := by rfl) : PTgs X (tg :: tgs) (t :: ts) := pgs_cons h1 h2 ht
theorem g_tp {es : List Expr} {k : Nat} {pos : Pos} {ts : List Tg} (hc : X.calm = true) (h : PTgs X es ts) (hn : (assignEach es X.env).length = ts.length := by rfl) (hst : (assignEach es X.env).findIdx? (·.1) = none := by rfl) :
    PTg X (.Tuple es k pos) (.tp ts) :=
  ⟨fun pins sh σ H v u Q I r q => q.elim ((pg_tup hc h hn hst).run pins sh σ H v u Q I r) ((pg_unl hc h hn hst).run pins sh σ H v u Q I r)⟩

/-! ### statements -/
theorem SI.bk {c : C} {σ : L2.St} {ρ : Env} {H : Hp} {n : Nt} (I : SI G X.K c σ H ρ n) : SI G X.K (c.to c.S) σ H ρ n := I
def andThen (m : W Out) (k : Env → W Out) : W Out := bnd m fun o => match o with
  | .nx ρ => k ρ
  | .rt d ρ => ret (.rt d ρ)
  | .bk ρ => ret (.bk ρ)
  | .ct ρ => ret (.ct ρ)
theorem GlS.seq {c : C} {H : Hp} {P : Out → Nt → Prop} {PX : Exc → Nt → Prop} {Dn : Ends} {f : Env → W Out} {N : L2.St → Hp → Prop} (hg : GlS G X c H P Dn)
    (hN : ∀ ρ' k σ' S' H', f ρ' k P PX → Grow c.S S' H H' → SI G X.K (c.to S') σ' H' ρ' k → N σ' H') :
    GlS G X c H (fun o k => (match o with | .nx ρ => f ρ | .rt d ρ => ret (.rt d ρ) | .bk ρ => ret (.bk ρ) | .ct ρ => ret (.ct ρ) : W Out) k P PX) { Dn with nx := N } :=
  ⟨fun ρ' k σ' S' H' p g I => hN ρ' k σ' S' H' p g I, fun d k v σ' ρ' S' H' p g I r => hg.2.1 d k v σ' ρ' S' H' p g I r, fun ρ' k σ' S' H' p g I => hg.2.2.1 ρ' k σ' S' H' p g I, fun ρ' k σ' S' H' p g I => hg.2.2.2 ρ' k σ' S' H' p g I⟩
/-- slot i is given up -/
def frz (i : Nat) (ρ : Env) : Env := match ρ[i]? with
  | some s => ρ.set i s.bor
  | none => ρ
theorem s_asg {tg e : Expr} {pos : Pos} {t : Tg} {g : Env → W D} (h : E G X Wx e g) (ht : PTg X tg t) (h1 : (assignEach [tg] X.env).map (·.2) = [assign tg X.env] := by rfl) (hs : swapsWithSole [tg] e pos.line X.env = pure false := by rfl) (hw : swappedStores [tg] e X.env = pure none := by rfl) :
    St1 G X Wx (.Assign [tg] e pos) (fun ρ => bnd (g ρ) fun d => bnd (setT t d ρ) fun ρ' => ret (.nx ρ')) := by
  exact weakS (ps_asg h ht hs hw h1) fun Dn σ H ⟨c, ρ, n, P, PX, I, q, hg, hx⟩ => tE.bnd I q hx.x fun d k v S' H' p g I' hx' r => gT_ok t (P := fun ρ' k => P (.nx ρ') k) I' r p fun ρ' k2 σ' p2 I2 _ _ => hg.1 ρ' k2 σ' S' H' p2 g I2
/-- name = a new list of one's own -/
theorem s_own {x : Str} {px pos : Pos} {e : Expr} {g : Env → W (List D)} (i : Nat) (h : EO G X Wx e g) (hN : X.N.Nodup) (hi : X.N[i]? = some x := by rfl) (hx : Loc X.env.scope x := by first | exact Or.inl rfl | exact Or.inr rfl) (hf : X.fn x = true ∨ X.env.scope.names.lookup x = some .local := by first | exact .inl rfl | exact .inr rfl)
    (hs : swapsWithSole [.Name x px] e pos.line X.env = pure false := by rfl) (hw : swappedStores [.Name x px] e X.env = pure none := by rfl) : St1 G X Wx (.Assign [.Name x px] e pos) (fun ρ => bnd (g ρ) fun xs => ret (.nx (ρ.set i (.own xs)))) :=
  weakS (ps_asg h (pg_name hN hi hx hf) hs hw) fun Dn σ H ⟨c, ρ, n, P, PX, I, q, hg, hx⟩ => tO.bnd I q hx.x fun xs k a vs S' H' p g I' hx' e z r f => hg.1 _ k _ S' H' p g (I'.setO e z r f.1 fun j sv _ h1 h2 => f.2 j sv h1 h2)
/-- a list of one's own is changed -/
theorem SI.mut {c : C} {σ : L2.St} {ρ : Env} {H : Hp} {n : Nt} {i : Nat} {xs ys : List D} {a : Addr} {vs : List V} (I : SI G X.K c σ H ρ n) (e : ρ[i]? = some (.own xs)) (es : slot σ i = some (.ref a)) (z : ys.length ≤ sizeLine) (r : Reps X.K c.S H ys vs) :
    SI G X.K c σ (upd H a (.lst vs)) (ρ.set i (.own ys)) n ∧ Grow c.S c.S H (upd H a (.lst vs)) := by
  obtain ⟨y1, y2, y3⟩ := I.own i _ a e rfl es
  have hl : i < ρ.length := (List.getElem?_eq_some_iff.mp e).1
  have g : Grow c.S c.S H (upd H a (.lst vs)) := ⟨fun _ q => q, fun b q => upd_ne fun z => y1 (z ▸ q)⟩
  have key : ∀ j sv, (ρ.set i (.own ys))[j]? = some sv → (j = i ∧ sv = .own ys) ∨ (i ≠ j ∧ ρ[j]? = some sv) := fun j sv e => by
    by_cases h : i = j
    · subst h
      rw [List.getElem?_set_self hl] at e
      exact .inl ⟨rfl, (Option.some.inj e).symm⟩
    · rw [List.getElem?_set_ne h] at e
      exact .inr ⟨h, e⟩
  refine ⟨⟨by rw [List.length_set, I.len], fun j sv e2 => ?_, fun j sv b e2 ho es2 => ?_, fun j k sv sv' b hn e1 e2 ho ho' es1 es2 => ?_, fun b q => ?_, fun b o e2 hn => ?_, fun p e2 => ?_, I.no, fun q e => ⟨(I.tab q e).1, (I.tab q e).2.grow g (upd_ne fun z => (I.tabN e).2.1 (z ▸ y2))⟩, fun b nd e => ⟨(I.mu b nd e).1.grow g (upd_ne fun z => (by rw [z, y3] at e; cases e)), (I.mu b nd e).2⟩, I.mu0, I.mz⟩, g⟩
  · rcases key j sv e2 with ⟨rfl, rfl⟩ | ⟨hn, h⟩
    · exact ⟨a, vs, es, upd_same, z, Reps.grow g _ _ r⟩
    · exact (I.slots j sv h).grow g fun b eb ho => upd_ne fun q => I.apart i j _ sv a hn e h rfl ho es (q ▸ eb)
  · rcases key j sv e2 with ⟨rfl, rfl⟩ | ⟨hn, h⟩
    · exact I.own j _ b e rfl es2
    · exact I.own j sv b h ho es2
  · rcases key j sv e1 with ⟨rfl, rfl⟩ | ⟨hn1, h1⟩
    · rcases key k sv' e2 with ⟨rfl, rfl⟩ | ⟨hn2, h2⟩
      · exact hn rfl
      · exact I.apart j k _ sv' b hn e h2 rfl ho' es1 es2
    · rcases key k sv' e2 with ⟨rfl, rfl⟩ | ⟨hn2, h2⟩
      · exact I.apart j k sv _ b hn h1 e ho rfl es1 es2
      · exact I.apart j k sv sv' b hn h1 h2 ho ho' es1 es2
  · rw [g.eq b q]; exact I.dom b q
  · have q := I.fr b o e2 hn
    rw [upd_ne fun z => by rw [z, y2] at e2; cases e2]
    exact q
  · obtain ⟨h1, h2, h3, h4, h5⟩ := I.pen p e2
    exact ⟨G.dep h1 (upd_ne fun z => h4 (z ▸ y2)) (upd_ne fun z => h5 (z ▸ y2)), h2, h3, h4, h5⟩
def ownAt (ρ : Env) (i : Nat) (f : List D → W Out) : W Out := match ρ[i]? with
  | some (.own xs) => f xs
  | _ => stuck
theorem ownAt_inv {ρ : Env} {i : Nat} {n : Nt} {f : List D → W Out} {P : Out → Nt → Prop} {PX : Exc → Nt → Prop} (h : ownAt ρ i f n P PX) : ∃ xs, ρ[i]? = some (.own xs) ∧ f xs n P PX := by
  unfold ownAt at h
  cases e : ρ[i]? with
  | none => rw [e] at h; exact h.elim
  | some sv =>
    rw [e] at h
    cases sv with
    | own xs => exact ⟨xs, rfl, h⟩
    | _ => exact h.elim
/-- xs.append(e) -/
theorem s_app {x : Str} {px pa pc pos : Pos} {e : Expr} {g : Env → W D} (i : Nat) (h : E G X Wx e g) (hN : X.N[i]? = some x := by rfl) (hv : Vis X.env.scope x := by first | exact Or.inl rfl | exact Or.inr (Or.inl rfl) | exact Or.inr (Or.inr rfl)) (hd : (x == ("__debug__" : Str)) = false := by decide)
    (hcd : (x == ("__classdict__" : Str)) = false := by decide) (hst : starEach [e] X.env = (false, eval e X.env) :: starEach [] X.env := by rfl)
    (hbase : attributeBase (.Name x px) "append" X.env (eval (.Name x px) X.env) = eval (.Name x px) X.env := by rfl)
    (hfew : ((backTo pc (starEach [e] X.env)).all (fun x => !x.1) && (backToKw pc (keywordEach [] X.env)).all (fun x => x.1.isSome)
      && decide (([e] : List Expr).length + ([] : List Keyword).length + (if ([] : List Keyword).isEmpty then 0 else 1) < 30)) = true := by rfl)
    (hline : (pa.endLine == pc.line) = true := by rfl) (hplain : (backTo pc (starEach [] X.env)).any (·.1) = false := by rfl) (hs : swapsWith (.Call (.Attribute (.Name x px) "append" pa) [e] [] pc) none pos.line X.env = pure false := by rfl) :
    St1 G X Wx (.Expr (.Call (.Attribute (.Name x px) "append" pa) [e] [] pc) pos) (fun ρ => ownAt ρ i fun xs => bnd (g ρ) fun d => grd (xs.length < sizeLine) (ret (.nx (ρ.set i (.own (xs ++ [d])))))) :=
  weakS (ps_expr (pe_bm PySem.F.plainAttrs_list PySem.F.slot_list_append PySem.F.type_list_append mt_append (pe_var hN hv hd hcd) (pa_cons h pa_nil hst) hbase hfew hline hst hplain) hs) fun Dn σ H ⟨c, ρ, n, P, PX, I, q, hg, hx⟩ => by
    obtain ⟨xs, e1, q⟩ := ownAt_inv q
    obtain ⟨a, vs, e2, e3, z, r⟩ := I.slots i _ e1
    refine ⟨.ref a, slot_some e2, .inl ⟨rfl, _, SqL.of e3⟩, tE.bnd I q hx.x fun d k v S' H' ⟨z2, p⟩ g I' hx' r' => ?_⟩
    obtain ⟨a', vs', e4, e5, z3, r2⟩ := I'.slots i _ e1
    rw [e2] at e4
    cases e4
    obtain ⟨I3, g3⟩ := I'.mut e1 e2 (ys := xs ++ [d]) (vs := vs' ++ [v]) (by rw [List.length_append]; exact z2) (Reps.app r2 (Reps.one r'))
    exact ⟨a, vs', v, rfl, rfl, e5, by rw [r2.len]; exact z2, hg.1 _ k σ _ _ p (g.trans g3) I3⟩
end
end PL

/-! The layer: walks, loops, comprehensions. -/
namespace PL
open PySem PySem.Spec L2
section
variable {G : PenK} {X : Cx} {Wx : WX}

/-- from S0, H0 on the walk J gives the items xs -/
def Walks (G : PenK) (K : PySem.W.Frag) (J : It) (S0 : Addr → Prop) (H0 : Hp) (xs : List D) : Prop :=
  ∀ (c : C) (ρ : Env) (σ : L2.St) (H : Hp) (n : Nt) (i : Nat), Grow S0 c.S H0 H → SI G K c σ H ρ n →
    (i < xs.length → J.go i H ∧ ∀ v H', J.yld i H v H' → ∃ S' x, Grow c.S S' H H' ∧ SI G K (c.to S') σ H' ρ n ∧ xs[i]? = some x ∧ Rep K S' H' x v) ∧ (xs.length ≤ i → J.stop i H)
def tI (G : PenK) (X : Cx) (Wx : WX) (g : Env → W (List D)) : TI := fun σ H R => ∃ c ρ n P PX, SI G X.K c σ H ρ n ∧ g ρ n P PX ∧
  (∀ xs k S' H' J, P xs k → Grow c.S S' H H' → SI G X.K (c.to S') σ H' ρ k → Walks G X.K J S' H' xs → R J H') ∧ OKx G X Wx c σ ρ H PX
def Wk (G : PenK) (X : Cx) (Wx : WX) (tg e : Expr) (g : Env → W (List D)) : Prop := PI X tg e (tI G X Wx g)
theorem weakI {tg e : Expr} {t t' : TI} (h : PI X tg e t) (f : ∀ σ H R, t' σ H R → t σ H R) : PI X tg e t' := ⟨fun pins s σ H R I q => h.run pins s σ H R I (f σ H R q)⟩

theorem walks_list {K : PySem.W.Frag} {S : Addr → Prop} {H : Hp} {a : Addr} {xs : List D} {vs : List V} (h : RdL S H a vs) (r : Reps K S H xs vs) : Walks G K (Itl K a) S H xs := fun c ρ σ H2 n i g I => by
  have h2 := h.grow g
  have r2 := Reps.grow g _ _ r
  refine ⟨fun hi => ?_, fun hi => ⟨vs, h2.sq, by rw [r2.len]; exact hi⟩⟩
  have hx : xs[i]? = some xs[i] := List.getElem?_eq_getElem hi
  obtain ⟨v, e1, e2⟩ := Reps.at r2 hx
  exact ⟨⟨vs, v, h2.sq, e1⟩, fun u H' ⟨e, y⟩ => ⟨c.S, xs[i], e ▸ .refl, e ▸ I, hx, by
    have := y vs h2.sq
    rw [e1] at this
    cases this
    rw [e]
    exact e2⟩⟩
theorem walks_tup {K : PySem.W.Frag} {S : Addr → Prop} {H : Hp} {a : Addr} {xs : List D} {vs : List V} (h : RdT K S H a vs) (r : Reps K S H xs vs) : Walks G K (Itt K a) S H xs := fun c ρ σ H2 n i g I => by
  have h2 := h.grow g
  have r2 := Reps.grow g _ _ r
  refine ⟨fun hi => ?_, fun hi => ⟨vs, h2.sq, by rw [r2.len]; exact hi⟩⟩
  have hx : xs[i]? = some xs[i] := List.getElem?_eq_getElem hi
  obtain ⟨v, e1, e2⟩ := Reps.at r2 hx
  exact ⟨⟨vs, v, h2.sq, e1⟩, fun u H' ⟨e, y⟩ => ⟨c.S, xs[i], e ▸ .refl, e ▸ I, hx, by
    have := y vs h2.sq
    rw [e1] at this
    cases this
    rw [e]
    exact e2⟩⟩
/-- a list or a tuple -/
theorem pi_seq {tg e : Expr} {te : TE} (he : PE X e te) : PI X tg e (fun σ H R => te σ H fun x H1 => ∃ a xs, x = .ref a ∧ ((SqL X.K H1 a xs ∧ R (Itl X.K a) H1) ∨ (SqT X.K H1 a xs ∧ R (Itt X.K a) H1))) :=
  ⟨fun pins s σ H R I h => thn (he.run pins s σ H _ I h) fun v s1 ⟨x, H1, I1, r1, a, xs, e, q⟩ => by
    subst e
    cases r1
    have fp : ∀ b ∈ [s1.heap.objs.size], FpOk X pins H1 b := fun b hb => by
      rw [List.mem_singleton.mp hb]
      exact I1.fpOk (Nat.le_refl _) (I1.hok.fresh (Nat.le_refl _))
    rcases q with ⟨h1, q⟩ | ⟨h1, q⟩
    · obtain ⟨its, _, p, _⟩ := I1.list h1
      exact PySem.wpAny_pyIter_list p.isList ⟨_, _, _, _, H1, rfl, I1.kept (t' := s1.toks) (fun b o e => Heap.get?_push_of_some _ e), turn_list a _, ⟨_, Heap.get?_push_size _ rfl, rfl, rfl⟩, fp, q⟩
    · obtain ⟨its, _, p, _⟩ := I1.tuple h1
      exact PySem.wpAny_pyIter_tuple (show s1.heap.IsTuple a its.toArray from p) ⟨_, _, _, _, H1, rfl, I1.kept (t' := s1.toks) (fun b o e => Heap.get?_push_of_some _ e), turn_tuple a _, ⟨_, Heap.get?_push_size _ rfl, rfl, rfl⟩, fp, q⟩⟩
theorem w_seq {tg e : Expr} {g : Env → W D} (h : E G X Wx e g) : Wk G X Wx tg e (fun ρ => bnd (g ρ) items) :=
  weakI (pi_seq h) fun σ H R ⟨c, ρ, n, P, PX, I, q, hg, hx⟩ => tE.bnd I q hx fun d k v S' H' p g I' hx' r => by
    cases d with
    | lst xs =>
      obtain ⟨a, vs, rfl, r1, z, q1⟩ := r
      exact ⟨a, vs, rfl, .inl ⟨r1.sq, hg xs k S' H' _ p g I' (walks_list r1 q1)⟩⟩
    | tup xs =>
      obtain ⟨a, vs, rfl, r1, z, q1⟩ := r
      exact ⟨a, vs, rfl, .inr ⟨r1.sq, hg xs k S' H' _ p g I' (walks_tup r1 q1)⟩⟩
    | _ => exact p.elim
/-- the ints lo, lo + 1, .. -/
def rng (lo : Int) (n : Nat) : List D := (List.range n).map fun i => .int (lo + (i : Nat))
def inR (i : Int) : Prop := -(2 ^ 62) ≤ i ∧ i < 2 ^ 62
def rng1 : D → W (List D)
  | .int j => grd (inR j) (ret (rng 0 j.toNat))
  | _ => stuck
theorem rng_len (lo : Int) (n : Nat) : (rng lo n).length = n := by unfold rng; rw [List.length_map, List.length_range]
theorem rng_get {lo : Int} {n i : Nat} (h : i < n) : (rng lo n)[i]? = some (.int (lo + (i : Nat))) := by
  unfold rng
  rw [List.getElem?_map, List.getElem?_range h]
  rfl
theorem walks_rng {K : PySem.W.Frag} {S : Addr → Prop} {H : Hp} {lo : Int} {n : Nat} : Walks G K (Itr lo n) S H (rng lo n) := fun c ρ σ H2 k i g I => by
  rw [rng_len]
  exact ⟨fun hi => ⟨hi, fun v H' ⟨e1, e2⟩ => ⟨c.S, _, e1 ▸ .refl, e1 ▸ I, rng_get hi, e2⟩⟩, fun hi => hi⟩
theorem w_rng1 {tg e : Expr} {p pos : Pos} {g : Env → W D} (hm : X.mg "range" = none) (h : E G X Wx e g) (hg : Gl X "range" := by rfl) (hs : starEach [e] X.env = [(false, eval e X.env)] := by rfl) : Wk G X Wx tg (.Call (.Name "range" p) [e] [] pos) (fun ρ => bnd (g ρ) rng1) :=
  weakI (pi_range1 hg hm (a_cons h a_nil hs) hs) fun σ H R ⟨c, ρ, n, P, PX, I, q, hg, hx⟩ => tAr.bnd (f := fun ds => match ds with | [d] => rng1 d | _ => stuck) I q hx fun ds k vs S' H' p g I' hx' r => by
    cases ds with
    | nil => exact p.elim
    | cons d ds =>
      cases ds with
      | cons _ _ => exact p.elim
      | nil =>
        obtain ⟨v, rfl, r1⟩ := r.one_inv
        cases d with
        | int j => obtain rfl : v = V.int j := r1; exact ⟨j, rfl, p.1.1, p.1.2, hg _ k S' H' _ p.2 g I' walks_rng⟩
        | _ => exact p.elim
/-- the signs of a text -/
def signs : D → W (List D)
  | .str x => ret (x.cps.toList.map fun k => .str ⟨#[k]⟩)
  | _ => stuck
theorem w_str {tg e : Expr} {g : Env → W D} (h : E G X Wx e g) : Wk G X Wx tg e (fun ρ => bnd (g ρ) signs) :=
  weakI (pi_str h) fun σ H R ⟨c, ρ, n, P, PX, I, q, hg, hx⟩ => tE.bnd I q hx fun d k v S' H' p g I' hx' r => by
    cases d with
    | str x =>
      obtain ⟨rfl, z⟩ := r
      refine ⟨x, rfl, hg _ k S' H' _ p g I' fun c2 ρ2 σ2 H2 n2 i g2 I2 => ?_⟩
      rw [List.length_map, Array.length_toList]
      refine ⟨fun hi => ⟨hi, fun v H3 ⟨e1, w, e2, e3⟩ => ⟨c2.S, .str ⟨#[w]⟩, e1 ▸ .refl, e1 ▸ I2, ?_, e3, by rw [sizeLine_eq]; show 1 ≤ 16777216; decide⟩⟩, fun hi => hi⟩
      rw [List.getElem?_map, Array.getElem?_toList, e2]
      rfl
    | _ => exact p.elim

/-! ### for -/
/-- slot i is given up ahead of a block -/
theorem SI.frz {K : PySem.W.Frag} {c : C} {σ : L2.St} {ρ : Env} {H : Hp} {n : Nt} (i : Nat) (I : SI G K c σ H ρ n) : ∃ S', SI G K (c.to S') σ H (PL.frz i ρ) n ∧ Grow c.S S' H H := by
  cases e : ρ[i]? with
  | none => exact ⟨c.S, by unfold PL.frz; rw [e]; exact I, .refl⟩
  | some sv =>
    have ef : PL.frz i ρ = ρ.set i sv.bor := by unfold PL.frz; rw [e]
    rw [ef]
    by_cases ho : sv.isOwn = true
    · obtain ⟨a, es⟩ : ∃ a, slot σ i = some (.ref a) := by
        have q := I.slots i sv e
        cases sv with
        | own xs => obtain ⟨a, _, h, _⟩ := q; exact ⟨a, h⟩
        | ownK xs => obtain ⟨a, _, h, _⟩ := q; exact ⟨a, h⟩
        | _ => cases ho
      have hl : i < ρ.length := (List.getElem?_eq_some_iff.mp e).1
      have g : Grow c.S (fun b => c.S b ∨ b = a) H H := ⟨fun _ q => .inl q, fun _ _ => rfl⟩
      have key : ∀ j s, (ρ.set i sv.bor)[j]? = some s → (j = i ∧ s = sv.bor) ∨ (i ≠ j ∧ ρ[j]? = some s) := fun j s e => by
        by_cases h : i = j
        · subst h
          rw [List.getElem?_set_self hl] at e
          exact .inl ⟨rfl, (Option.some.inj e).symm⟩
        · rw [List.getElem?_set_ne h] at e
          exact .inr ⟨h, e⟩
      obtain ⟨y1, y2, y3⟩ := I.own i sv a e ho es
      refine ⟨fun b => c.S b ∨ b = a, ⟨by rw [List.length_set, I.len], fun j s e2 => ?_, fun j s b e2 ho2 es2 => ?_, fun j k s s' b hn e1 e2 h1 h2 es1 es2 => ?_, fun b q => ?_, I.fr, fun p e2 => ?_, fun b q => ⟨fun z => z.elim (I.no b q).1 fun z => (I.no b q).2 (z ▸ y2), (I.no b q).2⟩, fun q e => ⟨(I.tab q e).1, (I.tab q e).2.grow g rfl⟩, fun b nd e => ⟨(I.mu b nd e).1.grow g rfl, fun z => Or.elim z (I.mu b nd e).2.1 fun z => (by rw [z, y3] at e; cases e), (I.mu b nd e).2.2⟩, I.mu0, I.mz⟩, g⟩
      · rcases key j s e2 with ⟨rfl, rfl⟩ | ⟨_, h⟩
        · have q := (I.slots j sv e).grow g fun _ _ _ => rfl
          cases sv with
          | own xs => obtain ⟨b, vs, e1, r, z, q⟩ := q; rw [es] at e1; cases e1; exact ⟨.ref a, es, a, vs, rfl, ⟨.inr rfl, r⟩, z, q⟩
          | ownK xs => obtain ⟨b, vs, e1, r, q⟩ := q; rw [es] at e1; cases e1; exact ⟨.ref a, es, a, vs, rfl, ⟨.inr rfl, .inl r⟩, q⟩
          | _ => cases ho
        · exact (I.slots j s h).grow g fun _ _ _ => rfl
      · rcases key j s e2 with ⟨rfl, rfl⟩ | ⟨hn, h⟩
        · rw [bor_own] at ho2; cases ho2
        · obtain ⟨z1, z2⟩ := I.own j s b h ho2 es2
          exact ⟨fun q => q.elim z1 fun q => I.apart i j sv s a hn e h ho ho2 es (q ▸ es2), z2⟩
      · rcases key j s e1 with ⟨rfl, rfl⟩ | ⟨_, h1'⟩
        · rw [bor_own] at h1; cases h1
        · rcases key k s' e2 with ⟨rfl, rfl⟩ | ⟨_, h2'⟩
          · rw [bor_own] at h2; cases h2
          · exact I.apart j k s s' b hn h1' h2' h1 h2 es1 es2
      · rcases q with q | rfl
        · exact I.dom b q
        · exact I.own_there ⟨i, sv, e, ho, es⟩
      · obtain ⟨h1, h2, h3, h4, h5⟩ := I.pen p e2
        exact ⟨h1, fun q => q.elim h2 fun q => h4 (q ▸ y2), fun q => q.elim h3 fun q => h5 (q ▸ y2), h4, h5⟩
    · have eb : sv.bor = sv := by cases sv <;> first | rfl | exact absurd rfl ho
      have e3 : ρ.set i sv = ρ := by
        apply List.ext_getElem?
        intro j
        by_cases h : i = j
        · subst h
          rw [List.getElem?_set_self (List.getElem?_eq_some_iff.mp e).1, e]
        · rw [List.getElem?_set_ne h]
      rw [eb, e3]
      exact ⟨c.S, I, .refl⟩
end
end PL

/-! The layer: comprehensions. -/
namespace PL
open PySem PySem.Spec L2

def wip : List Nat → Env → Env
  | [], ρ => ρ
  | v :: vs, ρ => (wip vs ρ).set v .un
def noOwn (vs : List Nat) (ρ : Env) : Bool := vs.all fun v => match ρ[v]? with
  | some s => !s.isOwn
  | none => true
def quiet {α : Type} (m : W α) : W α := fun n P _ => m n P fun _ _ => False
def compW (t : Tg) (gt : Env → W Bool) (ge : Env → W D) (ρ : Env) : List D → W (List D)
  | [] => ret []
  | x :: xs => bnd (setT t x ρ) fun ρ' => bnd (gt ρ') fun b => if b = true then bnd (ge ρ') fun y => bnd (compW t gt ge ρ xs) fun ys => ret (y :: ys) else compW t gt ge ρ xs
abbrev WF : WX := fun _ _ _ _ => False

theorem wip_get : ∀ (vs : List Nat) (ρ : Env) (i : Nat) (s : SV), (wip vs ρ)[i]? = some s → s = .un ∨ (i ∉ vs ∧ ρ[i]? = some s)
  | [], ρ, i, s, h => .inr ⟨by simp, h⟩
  | v :: vs, ρ, i, s, h => by
    unfold wip at h
    by_cases e : v = i
    · subst e
      by_cases hl : v < (wip vs ρ).length
      · rw [List.getElem?_set_self hl] at h
        exact .inl (Option.some.inj h).symm
      · rw [List.getElem?_eq_none (by rw [List.length_set]; omega)] at h
        cases h
    · rw [List.getElem?_set_ne e] at h
      rcases wip_get vs ρ i s h with q | ⟨q1, q2⟩
      · exact .inl q
      · exact .inr ⟨fun z => (List.mem_cons.mp z).elim (fun z => e z.symm) q1, q2⟩
theorem wip_out : ∀ (vs : List Nat) (ρ : Env) (i : Nat), i ∉ vs → (wip vs ρ)[i]? = ρ[i]?
  | [], _, _, _ => rfl
  | v :: vs, ρ, i, h => by
    unfold wip
    rw [List.getElem?_set_ne fun e => h (by rw [e]; exact List.mem_cons_self), wip_out vs ρ i fun z => h (List.mem_cons_of_mem _ z)]
theorem wip_len : ∀ (vs : List Nat) (ρ : Env), (wip vs ρ).length = ρ.length
  | [], _ => rfl
  | v :: vs, ρ => by unfold wip; rw [List.length_set, wip_len vs ρ]
theorem wipe_out : ∀ (vs : List Nat) (σ : L2.St) (i : Nat), i ∉ vs → (L2.wipe σ vs)[i]? = σ[i]?
  | [], _, _, _ => rfl
  | v :: vs, σ, i, h => by
    unfold L2.wipe
    rw [List.getElem?_set_ne fun e => h (by rw [e]; exact List.mem_cons_self), wipe_out vs σ i fun z => h (List.mem_cons_of_mem _ z)]
theorem wipe_in : ∀ (vs : List Nat) (σ : L2.St) (i : Nat), i ∈ vs → i < σ.length → (L2.wipe σ vs)[i]? = some none
  | [], _, _, h, _ => nomatch h
  | v :: vs, σ, i, h, hl => by
    unfold L2.wipe
    by_cases e : v = i
    · subst e
      rw [List.getElem?_set_self (by rw [L2.wipe_length]; exact hl)]
    · rw [List.getElem?_set_ne e]
      exact wipe_in vs σ i ((List.mem_cons.mp h).resolve_left fun z => e z.symm) hl
/-- the slots that the targets may change are wiped: the rest is the same -/
theorem wipe_but {vs ws : List Nat} {σ σ' : L2.St} (b : But ws (L2.wipe σ vs) σ') (h : ∀ i ∈ ws, i ∈ vs) : L2.wipe σ' vs = L2.wipe σ vs := by
  have hl : σ'.length = σ.length := b.1.trans (L2.wipe_length σ vs)
  apply List.ext_getElem?
  intro i
  by_cases hi : i ∈ vs
  · by_cases hz : i < σ.length
    · rw [wipe_in vs σ' i hi (by omega), wipe_in vs σ i hi hz]
    · rw [List.getElem?_eq_none (by rw [L2.wipe_length]; omega), List.getElem?_eq_none (by rw [L2.wipe_length]; omega)]
  · rw [wipe_out vs σ' i hi, b.2 i fun z => hi (h i z)]

section
variable {G : PenK} {K : PySem.W.Frag} {c : C} {σ : L2.St} {ρ : Env} {H : Hp} {n : Nt}
theorem SI.wipe (vs : List Nat) (I : SI G K c σ H ρ n) : SI G K c (L2.wipe σ vs) H (wip vs ρ) n := by
  have st : ∀ i, i ∉ vs → slot (L2.wipe σ vs) i = slot σ i := fun i h => by unfold slot; rw [wipe_out vs σ i h]
  refine ⟨by rw [wip_len, L2.wipe_length, I.len], fun i sv e => ?_, fun i sv a e ho es => ?_, fun i j sv sv' a hn e e' ho ho' es es' => ?_, I.dom, I.fr, I.pen, I.no, I.tab, I.mu, I.mu0, I.mz⟩
  · rcases wip_get vs ρ i sv e with rfl | ⟨h1, h2⟩
    · trivial
    · rw [st i h1]; exact I.slots i sv h2
  · rcases wip_get vs ρ i sv e with rfl | ⟨h1, h2⟩
    · cases ho
    · exact I.own i sv a h2 ho (st i h1 ▸ es)
  · rcases wip_get vs ρ i sv e with rfl | ⟨h1, h2⟩
    · cases ho
    · rcases wip_get vs ρ j sv' e' with rfl | ⟨h1', h2'⟩
      · cases ho'
      · exact I.apart i j sv sv' a hn h2 h2' ho ho' (st i h1 ▸ es) (st j h1' ▸ es')
/-- within a comprehension's block: the new list at D is kept, and is never among what stays -/
def C.blk (c : C) (D : Addr) (o : HO) : C := { c with H0 := fun a => if a = D then some o else c.H0 a, no := fun a => c.no a ∨ a = D }
theorem SI.blk {D : Addr} {o : HO} (I : SI G K c σ H ρ n) (hD : H D = some o) (h0 : c.H0 D = none) (hS : ¬ c.S D) (hM : n.μ D = none) (ho : ¬ ownS ρ σ D) : SI G K (c.blk D o) σ H ρ n := by
  have up : ∀ a, c.H0 a ≠ none → (c.blk D o).H0 a ≠ none := fun a h => by
    show (if a = D then some o else c.H0 a) ≠ none
    split
    · exact fun z => nomatch z
    · exact h
  refine ⟨I.len, I.slots, fun i sv a e h es => ⟨(I.own i sv a e h es).1, ?_, (I.own i sv a e h es).2.2⟩, I.apart, I.dom, fun a u e hn => ?_, fun p e => ?_, fun a h => ?_, fun q e => ⟨.inl (I.tab q e).1, (I.tab q e).2⟩, fun a nd e => ⟨(I.mu a nd e).1, (I.mu a nd e).2.1, (I.mu a nd e).2.2.1.imp id fun h => (if_neg (show ¬ a = D from fun z => (by rw [z, hM] at e; cases e))).trans h, (I.mu a nd e).2.2.2⟩, fun a h => ⟨(I.mu0 a h).1, up a (I.mu0 a h).2⟩, I.mz⟩
  · show (if a = D then some o else c.H0 a) = none
    rw [if_neg (show ¬ a = D from fun z => ho ⟨i, sv, e, h, by rw [← z]; exact es⟩)]
    exact (I.own i sv a e h es).2.1
  · have e : (if a = D then some o else c.H0 a) = some u := e
    split at e
    · rename_i z; rw [z, hD]; exact e
    · exact I.fr a u e hn
  · obtain ⟨h1, h2, h3, h4, h5⟩ := I.pen p e
    exact ⟨h1, h2, h3, up _ h4, up _ h5⟩
  · rcases h with h | h
    · exact ⟨(I.no a h).1, up a (I.no a h).2⟩
    · rw [h]
      exact ⟨hS, by show (if D = D then some o else c.H0 D) ≠ none; rw [if_pos rfl]; exact fun z => nomatch z⟩
/-- an object beside all that is told is changed or laid -/
theorem SI.put {D : Addr} {o : HO} (I : SI G K c σ H ρ n) (h0 : c.H0 D = none) (hS : ¬ c.S D) (hM : n.μ D = none) (ho : ¬ ownS ρ σ D) : SI G K c σ (upd H D o) ρ n ∧ Grow c.S c.S H (upd H D o) := by
  have g : Grow c.S c.S H (upd H D o) := ⟨fun _ q => q, fun b q => upd_ne (show b ≠ D from fun z => hS (z ▸ q))⟩
  refine ⟨⟨I.len, fun i sv e => (I.slots i sv e).grow g fun b eb h => upd_ne (show b ≠ D from fun z => ho ⟨i, sv, e, h, z ▸ eb⟩), I.own, I.apart, fun b q => by rw [g.eq b q]; exact I.dom b q, fun b u e q => ?_, fun q e => ?_, I.no, fun q e => ⟨(I.tab q e).1, (I.tab q e).2.grow g (upd_ne fun z => (I.tabN e).2.1 (by rw [z]; exact h0))⟩, fun b nd e => ⟨(I.mu b nd e).1.grow g (upd_ne (show b ≠ D from fun z => (by rw [z, hM] at e; cases e))), (I.mu b nd e).2⟩, I.mu0, I.mz⟩, g⟩
  · rw [upd_ne (show b ≠ D from fun z => by rw [z, h0] at e; cases e)]
    exact I.fr b u e q
  · obtain ⟨h1, h2, h3, h4, h5⟩ := I.pen q e
    exact ⟨G.dep h1 (upd_ne (show q.1 ≠ D from fun z => h4 (by rw [z]; exact h0))) (upd_ne (show q.2 ≠ D from fun z => h5 (by rw [z]; exact h0))), h2, h3, h4, h5⟩
/-- back from the block -/
theorem SI.restore {D : Addr} {o : HO} {vs : List Nat} {σ2 : L2.St} {ρ2 : Env} {H' : Hp} {S' : Addr → Prop} {k : Nt} (I : SI G K c σ H ρ n) (h0 : c.H0 D = none) (J : SI G K ((c.blk D o).to S') σ2 H' ρ2 k) (g : Grow c.S S' H H')
    (b : ∀ i, i ∉ vs → σ2[i]? = σ[i]?) (be : ∀ i, i ∉ vs → ρ2[i]? = ρ[i]?) (hn : noOwn vs ρ = true) : SI G K (c.to S') σ H' ρ k ∧ H' D = some o ∧ ¬ S' D ∧ k.μ D = none := by
  have nD : ∀ a, c.H0 a ≠ none → a ≠ D := fun a h e => h (e ▸ h0)
  have H0e : ∀ a, a ≠ D → (c.blk D o).H0 a = c.H0 a := fun a h => if_neg h
  have notIn : ∀ i sv, ρ[i]? = some sv → sv.isOwn = true → i ∉ vs := fun i sv e ho hi => by
    have := List.all_eq_true.mp hn i hi
    rw [e] at this
    simp [ho] at this
  have st : ∀ i, i ∉ vs → slot σ2 i = slot σ i := fun i h => by unfold slot; rw [b i h]
  have oD : ((c.blk D o).to S').H0 D = some o := if_pos rfl
  have notpen : ∀ a, ¬ G.pens c a → ¬ G.pens ((c.blk D o).to S') a := fun a h z => h z
  have muD : ∀ a nd, k.μ a = some nd → c.mu a ∨ c.H0 a = none := fun a nd e => (J.mu a nd e).2.2.1.imp id fun h => by
    by_cases z : a = D
    · rw [z, oD] at h; cases h
    · exact (H0e a z).symm.trans h
  have mD : k.μ D = none := by
    cases e : k.μ D with
    | none => rfl
    | some nd =>
      rcases (J.mu D nd e).2.2.1 with h | h
      · exact absurd h0 (I.mu0 D h).2
      · rw [oD] at h; cases h
  refine ⟨⟨I.len, fun i sv e => ?_, fun i sv a e ho es => ?_, I.apart, J.dom, fun a u e hp => ?_, fun p e => ?_, fun a h => ⟨(J.no a (.inl h)).1, (I.no a h).2⟩, fun q e => ⟨(I.tab q e).1, (J.tab q e).2⟩, fun a nd e => ⟨(J.mu a nd e).1, (J.mu a nd e).2.1, muD a nd e, (J.mu a nd e).2.2.2⟩, fun a h => ⟨(J.mu0 a h).1, (I.mu0 a h).2⟩, J.mz⟩, ?_, (J.no D (.inr rfl)).1, mD⟩
  · by_cases ho : sv.isOwn = true
    · have hi := notIn i sv e ho
      have q := J.slots i sv (by rw [be i hi]; exact e)
      rw [st i hi] at q
      cases sv with
      | own xs => exact q
      | ownK xs => exact q
      | _ => cases ho
    · exact (I.slots i sv e).grow g fun a _ h => absurd h ho
  · have hi := notIn i sv e ho
    have q := J.own i sv a (by rw [be i hi]; exact e) ho (by rw [st i hi]; exact es)
    exact ⟨q.1, (I.own i sv a e ho es).2.1, q.2.2⟩
  · exact J.fr a u (by rw [show ((c.blk D o).to S').H0 a = c.H0 a from H0e a (nD a (by rw [e]; exact fun z => nomatch z))]; exact e) (notpen a hp)
  · obtain ⟨h1, h2, h3, _, _⟩ := J.pen p e
    obtain ⟨_, _, _, h4, h5⟩ := I.pen p e
    exact ⟨h1, h2, h3, h4, h5⟩
  · exact J.fr D o oD (notpen D (I.penOld h0))
end

section
variable {G : PenK} {X : Cx} {Wx : WX}
/-- a block's tests -/
def Ts (G : PenK) (X : Cx) (es : List Expr) (g : Env → W Bool) : Prop := PTs X es (tT G X WF g)
theorem ts_nil : Ts G X [] (fun _ => ret true) := ⟨fun pins s σ H Q I ⟨c, ρ, n, P, PX, I', q, hg, hx⟩ => pts_nil.run pins s σ H Q I (hg true n c.S H q .refl I')⟩
theorem ts_one {e : Expr} {g : Env → W Bool} (h : T G X WF e g) : Ts G X [e] g := pts_one h
theorem lc_body {t : Tg} {gt : Env → W Bool} {ge : Env → W D} {vs : List Nat} {c : C} {σ : L2.St} {ρ : Env} {H H' : Hp} {S' : Addr → Prop} {k : Nt} {xs : List D} {J : It} {P : List D → Nt → Prop} {Q : VK} (hix : ∀ i ∈ t.ix, i ∈ vs) (hg : GlO G X c σ ρ H P Q) (hz : xs.length ≤ sizeLine) (hno : noOwn vs ρ = true)
    (p : compW t gt ge (wip vs ρ) xs k P fun _ _ => False) (g : Grow c.S S' H H') (I' : SI G X.K (c.to S') σ H' ρ k) (wk : Walks G X.K J S' H' xs) : tLc (fun _ H R => R J H) (gT X.K t) (tT G X WF gt) (tE G X WF ge) vs σ H' Q := fun D hD => by
    have h0 : c.H0 D = none := I'.freeOld hD
    have hS : ¬ S' D := I'.freeS hD
    have hM : k.μ D = none := I'.freeM hD
    have hO : ¬ ownS ρ σ D := fun z => I'.own_there z hD
    obtain ⟨ID, gD⟩ := SI.put (o := .lst []) I' h0 hS hM hO
    -- the turns
    refine ⟨fun i m H2 => m = xs.length - i ∧ i ≤ xs.length ∧ ∃ S2 k2 acc vac, Grow S' S2 H' H2 ∧ SI G X.K (c.to S2) σ H2 ρ k2 ∧ H2 D = some (.lst vac) ∧ ¬ S2 D ∧ k2.μ D = none ∧ Reps X.K S2 H2 acc vac ∧ acc.length ≤ i ∧ compW t gt ge (wip vs ρ) (xs.drop i) k2 (fun ys k => P (acc ++ ys) k) (fun _ _ => False),
      ⟨_, rfl, Nat.zero_le _, S', k, [], [], gD, ID, upd_same, hS, hM, rfl, Nat.le_refl _, p⟩, ?_⟩
    rintro i m H2 ⟨rfl, hi2, S2, k2, acc, vac, g2, I2, e2, n2, m2, r2, l2, p2⟩
    obtain ⟨w1, w2⟩ := wk (c.to S2) ρ σ H2 k2 i g2 I2
    by_cases hlt : i < xs.length
    · obtain ⟨go, yl⟩ := w1 hlt
      refine .inr ⟨go, fun H3 => ∃ S3 k3 acc vac, Grow S' S3 H' H3 ∧ SI G X.K (c.to S3) σ H3 ρ k3 ∧ H3 D = some (.lst vac) ∧ ¬ S3 D ∧ k3.μ D = none ∧ Reps X.K S3 H3 acc vac ∧ acc.length ≤ i + 1 ∧ compW t gt ge (wip vs ρ) (xs.drop (i + 1)) k3 (fun ys k => P (acc ++ ys) k) (fun _ _ => False),
        fun H3 q => ⟨xs.length - (i + 1), by omega, rfl, hlt, q⟩, fun v H3 y => ?_⟩
      -- the walk may look at the list too: it is kept by the block's ghost
      obtain ⟨wb, _⟩ := wk ((c.to S2).blk D (.lst vac)) ρ σ H2 k2 i g2 (SI.blk (c := c.to S2) I2 e2 h0 n2 m2 hO)
      obtain ⟨_, yb⟩ := wb hlt
      obtain ⟨S3, x, g3, I3, ex, r3⟩ := yb v H3 y
      have ed : xs.drop i = x :: xs.drop (i + 1) := by
        rw [List.drop_eq_getElem_cons hlt]
        rw [List.getElem?_eq_getElem hlt] at ex
        cases ex
        rfl
      rw [ed] at p2
      refine gT_ok t (SI.wipe vs I3) r3 p2 fun ρ4 k4 σ4 p4 I4 b4 be4 => ⟨wipe_but b4 hix, ⟨_, ρ4, k4, fun b k => (if b = true then bnd (ge ρ4) fun y => bnd (compW t gt ge (wip vs ρ) (xs.drop (i + 1))) fun ys => ret (y :: ys) else compW t gt ge (wip vs ρ) (xs.drop (i + 1))) k (fun ys k => P (acc ++ ys) k) (fun _ _ => False), fun _ _ => False, I4, p4, fun b k5 S5 H5 p5 g5 I5 => ?_, fun _ _ _ _ _ _ z => z.elim⟩⟩
      have outσ : ∀ i, i ∉ vs → σ4[i]? = σ[i]? := fun i h => (b4.2 i fun z => h (hix i z)).trans (wipe_out vs σ i h)
      have outρ : ∀ i, i ∉ vs → ρ4[i]? = ρ[i]? := fun i h => (be4.2 i fun z => h (hix i z)).trans (wip_out vs ρ i h)
      have g25 : Grow S2 S5 H2 H5 := g3.trans g5
      cases b with
      | false =>
        obtain ⟨J5, eD5, nD5, mD5⟩ := SI.restore (vs := vs) (c := c.to S2) I2 h0 I5 g25 outσ outρ hno
        exact iteF ⟨S5, k5, acc, vac, g2.trans g25, J5, eD5, nD5, mD5, Reps.grow g25 _ _ r2, Nat.le_succ_of_le l2, p5⟩
      | true =>
        refine iteT (tE.bnd I5 p5 (fun _ _ _ _ _ _ z => z.elim) fun d k6 u S6 H6 p6 g6 I6 _ r6 => ?_)
        have g26 : Grow S2 S6 H2 H6 := g25.trans g6
        obtain ⟨J6, eD6, nD6, mD6⟩ := SI.restore (vs := vs) (c := c.to S2) I2 h0 I6 g26 outσ outρ hno
        have r26 := Reps.grow g26 _ _ r2
        refine ⟨vac, eD6, by rw [r2.len]; omega, S6, k6, acc ++ [d], vac ++ [u], ?_, ?_, upd_same, nD6, mD6, ?_, by rw [List.length_append]; show acc.length + 1 ≤ i + 1; omega, ?_⟩
        · exact (g2.trans g26).trans (SI.put (o := .lst (vac ++ [u])) J6 h0 nD6 mD6 hO).2
        · exact (SI.put (o := .lst (vac ++ [u])) J6 h0 nD6 mD6 hO).1
        · exact Reps.grow (SI.put (o := .lst (vac ++ [u])) J6 h0 nD6 mD6 hO).2 _ _ (Reps.app r26 (Reps.one r6))
        · have e : (fun (ys : List PL.D) (k : Nt) => P ((acc ++ [d]) ++ ys) k) = fun ys k => P (acc ++ (d :: ys)) k := by
            funext ys k
            rw [List.append_assoc]
            rfl
          rw [e]
          exact p6
    · have e : i = xs.length := by omega
      subst e
      rw [List.drop_length] at p2
      have p2' : P acc k2 := by
        have q : P (acc ++ []) k2 := p2
        rwa [List.append_nil] at q
      exact .inl ⟨w2 (Nat.le_refl _), hg acc k2 D vac S2 H2 p2' (g.trans g2) I2 e2 (by have : xs.length ≤ sizeLine := hz; omega) r2 ⟨⟨n2, h0, m2⟩, fun i sv e ho es => hO ⟨i, sv, e, ho, es⟩⟩⟩
theorem lc_law {t : Tg} {g : Env → W (List D)} {gt : Env → W Bool} {ge : Env → W D} {vs : List Nat} {σ : L2.St} {H : Hp} {Q : VK} (hix : ∀ i ∈ t.ix, i ∈ vs)
    (hh : tO G X Wx (fun ρ => bnd (g ρ) fun xs => few xs (grd (noOwn vs ρ = true) (quiet (compW t gt ge (wip vs ρ) xs)))) σ H Q) : tLc (tI G X Wx g) (gT X.K t) (tT G X WF gt) (tE G X WF ge) vs σ H Q := by
    obtain ⟨c, ρ, n, P, PX, I, q, hg, hx⟩ := hh
    exact ⟨c, ρ, n, fun xs k => few xs (grd (noOwn vs ρ = true) (quiet (compW t gt ge (wip vs ρ) xs))) k P PX, PX, I, q, fun xs k S' H' J ⟨hz, hno, p⟩ g I' wk => lc_body hix hg hz hno p g I' wk, hx⟩
theorem o_lc {elt tg iter : Expr} {ifs : List Expr} {scope : Scope} {own : List (Str × Nat)} {pos : Pos} {t : Tg} {g : Env → W (List D)} {gt : Env → W Bool} {ge : Env → W D} (hc : X.calm = true) (hN : X.N.Nodup) (hi : Wk G X Wx tg iter g) (ok : BlkOk X.N X.env.scope scope own)
    (hg : ∀ (s : Shared) (H : Hp) (A : Addr) (cl : List (Str × Addr)) (fp : List Addr), PTg (X.blk s H scope (compEnvC scope cl A X.env) fp) tg t) (ht : ∀ (s : Shared) (H : Hp) (A : Addr) (cl : List (Str × Addr)) (fp : List Addr), Ts G (X.blk s H scope (compEnvC scope cl A X.env) fp) ifs gt)
    (he : ∀ (s : Shared) (H : Hp) (A : Addr) (cl : List (Str × Addr)) (fp : List Addr), E G (X.blk s H scope (compEnvC scope cl A X.env) fp) WF elt ge) (hix : ∀ i ∈ t.ix, i ∈ own.map (·.2) := by decide) (hs : ∀ x, foldedSetIterable iter X.env x = pure x := by intro _; rfl) :
    EO G X Wx (.ListComp elt [⟨tg, iter, ifs, 0⟩] scope pos) (fun ρ => bnd (g ρ) fun xs => few xs (grd (noOwn (own.map (·.2)) ρ = true) (quiet (compW t gt ge (wip (own.map (·.2)) ρ) xs)))) :=
  weakE (pe_lc (g := gT X.K t) (tt := tT G X WF gt) (te := tE G X WF ge) hc hN hi ok hg ht he hs) fun σ H Q q => lc_law hix q
/-- name = [..] on one line, the name a local -/
theorem s_asgLc {y : Str} {py spos : Pos} {elt tg iter : Expr} {ifs : List Expr} {scope : Scope} {own : List (Str × Nat)} {pos : Pos} {t : Tg} {g : Env → W (List D)} {gt : Env → W Bool} {ge : Env → W D} (i : Nat) (hc : X.calm = true) (hN : X.N.Nodup) (hi : Wk G X Wx tg iter g) (ok : BlkOk X.N X.env.scope scope own)
    (hg : ∀ (s : Shared) (H : Hp) (A : Addr) (cl : List (Str × Addr)) (fp : List Addr), PTg (X.blk s H scope (compEnvC scope cl A X.env) fp) tg t) (ht : ∀ (s : Shared) (H : Hp) (A : Addr) (cl : List (Str × Addr)) (fp : List Addr), Ts G (X.blk s H scope (compEnvC scope cl A X.env) fp) ifs gt)
    (he : ∀ (s : Shared) (H : Hp) (A : Addr) (cl : List (Str × Addr)) (fp : List Addr), E G (X.blk s H scope (compEnvC scope cl A X.env) fp) WF elt ge) (hy : X.N[i]? = some y := by rfl) (hyl : X.env.scope.names.lookup y = some .local := by rfl) (hix : ∀ i ∈ t.ix, i ∈ own.map (·.2) := by decide)
    (hk : X.env.scope.kind = .function := by rfl) (hln : (py.line == pos.line) = true := by rfl) (hsc : (scope.names.any fun (n, k) => n == y && (k == .local || k == .cell)) = false := by rfl) (hs : ∀ x, foldedSetIterable iter X.env x = pure x := by intro _; rfl) :
    St1 G X Wx (.Assign [.Name y py] (.ListComp elt [⟨tg, iter, ifs, 0⟩] scope pos) spos) (fun ρ => bnd (bnd (g ρ) fun xs => few xs (grd (noOwn (own.map (·.2)) ρ = true) (quiet (compW t gt ge (wip (own.map (·.2)) ρ) xs)))) fun xs => ret (.nx (ρ.set i (.d (.lst xs))))) :=
  weakS (ps_setLc (g := gT X.K t) (tt := tT G X WF gt) (te := tE G X WF ge) hc hN hy hyl (sw_true hk hyl hln hsc) hi ok hg ht he hs) fun Dn σ H ⟨c, ρ, n, P, PX, I, q, hg, hx⟩ =>
    lc_law hix (tO.bnd I q hx.x fun xs k a vs S' H' p g I' hx' e z r f => by
      obtain ⟨I2, g2⟩ := I'.adopt f (by rw [e]; exact fun z => nomatch z)
      exact hg.1 _ k _ _ H' p (g.trans g2) (I2.set (i := i) (d := .lst xs) (v := .ref a) ⟨a, vs, rfl, ⟨.inr rfl, e⟩, z, Reps.grow g2 _ _ r⟩))
end
end PL

/-! The layer: defs and their calls. -/
namespace PL
open PySem PySem.Spec PyProof.Rows L2

/-! ### a def's promise, where no repr is under way -/
structure FnG (P : Program) (w : World) (K : PySem.W.Frag) (mg : Str → Option Value) (base : Heap) (k : Nat) (f : Addr) (fd : FuncData) (ps : List Str) (sp : Sp) : Prop where
  len : ∀ vs H Q E, sp vs H Q E → vs.length = ps.length
  run : ∀ (A : Around) (outer : List PySem.Env) (s : Shared) (H : Hp) (args : Args) (us : List Value) (vs : List V) (Q : VK) (E : XK), A.guards = some [] → Room k A → Env0 P w K mg base A outer s H →
    BindsTo s fd args (ps.zip us) → Vals vs us → sp vs H Q E → codeAny (model P w) A (.call (.ref f) args) (CR (L2.CX P w) outer P w H s Q E) s
theorem FnG.mono {P : Program} {w : World} {K : PySem.W.Frag} {mg : Str → Option Value} {base : Heap} {j k : Nat} {f : Addr} {fd : FuncData} {ps : List Str} {sp : Sp} (F : FnG P w K mg base j f fd ps sp) (h : j ≤ k) : FnG P w K mg base k f fd ps sp :=
  ⟨F.len, fun A outer s H args us vs Q E hg hr => F.run A outer s H args us vs Q E hg (hr.mono h)⟩
theorem FnG.imp {P : Program} {w : World} {K : PySem.W.Frag} {mg : Str → Option Value} {base : Heap} {k : Nat} {f : Addr} {fd : FuncData} {ps : List Str} {sp sp' : Sp} (F : FnG P w K mg base k f fd ps sp)
    (h : ∀ vs H Q E, sp' vs H Q E → sp vs H Q E) : FnG P w K mg base k f fd ps sp' :=
  ⟨fun vs H Q E q => F.len vs H Q E (h _ _ _ _ q), fun A outer s H args us vs Q E hg hr he hb hv hs => F.run A outer s H args us vs Q E hg hr he hb hv (h _ _ _ _ hs)⟩

theorem FnG.of_bodyC {P : Program} {w : World} {K : PySem.W.Frag} {mg : Str → Option Value} {base : Heap} {k : Nat} {f : Addr} {fd : FuncData} {x qual : Str} {st : Stmt} {N ps : List Str} {sp : Sp} (F : Fun K x qual st f fd) (S : FnScope N ps (defScope st))
    (len : ∀ vs H Q E, sp vs H Q E → vs.length = ps.length)
    (body : ∀ (cdv : Value) (A : Around) (outer : List PySem.Env) (s : Shared) (H : Hp) (vs : List V) (Q : VK) (E : XK), fd.code = cdv → A.guards = some [] → Room k (A.deeper (envOfC qual (defScope st) s.heap.objs.size f cdv)) → sp vs H Q E →
      ∃ t, PSs (cxOf (L2.CX P w) P w K mg base N qual (defScope st) f cdv A outer s H E) (defBody st) t ∧ t { nx := fun _ H' => Q .non H', rt := Q } (L2.start N vs) H) : FnG P w K mg base (k + 1) f fd ps sp := by
  obtain ⟨oc, od, kV, doc, pm, an, cdv, ct, osl, rfl, lk, hcd⟩ := F.ex
  refine ⟨len, fun A outer s H args us vs Q E hg hr e0 hb r hsp => ?_⟩
  have hk : K.In s.heap := e0.mod.kin.keeps fun b o e => (e0.bs b o e).1
  have hlim : s.heap.NoLimit := e0.mod.nolimit.keeps fun b o e => (e0.bs b o e).1
  have loc : ∀ y ∈ ps.zip us, (defScope st).names.lookup y.1 = some .local ∨ ((defScope st).names.lookup y.1 = some .cell ∧ ((cellsFrom (s.heap.objs.size + 1) (defScope st).names []).lookup y.1).isSome = true) := by
    rintro ⟨y, v⟩ hy
    cases S.par y (List.of_mem_zip hy).1 with
    | inl q => exact Or.inl q
    | inr q => exact Or.inr ⟨q, PySem.W.cellsFrom_some _ _ _ (Or.inl q)⟩
  refine codeAny_call_function hr.depth (hk _ _ lk) rfl S.co S.gen rfl (PySem.W.codeRec_of hk hcd) (hb _ _ _ _ (wpAny_newFunctionEnv_cells S.kind loc ?_))
  rintro env rfl s1 hin
  refine ⟨hlim.keeps hin.toInCall.keep, codeAny_func ?_⟩
  obtain ⟨t, ht, hq⟩ := body cdv A outer s H vs Q E rfl hg (hr.deeper _) hsp
  have J := inv_start (CX := L2.CX P w) (E := E) (mg := mg) (base := base) S hr.hd e0 (len _ _ _ _ hsp) r hin
  refine wpAny_mono (ht.run [] s1 (L2.start N vs) H _ J hq) (fun fl s' hs => ?_) fun _ _ z => z
  cases fl with
  | ret u => obtain ⟨v, σ', H', J', rv, q⟩ := hs; exact ⟨v, H', J'.os, J'.bare, J'.base, J'.hok, rv, q⟩
  | next => obtain ⟨σ', H', J', q⟩ := hs; exact ⟨.non, H', J'.os, J'.bare, J'.base, J'.hok, rfl, q⟩
  | brk => obtain ⟨_, _, _, q⟩ := hs; exact q.elim
  | cont => obtain ⟨_, _, _, q⟩ := hs; exact q.elim

theorem FnG.of_body {P : Program} {w : World} {K : PySem.W.Frag} {mg : Str → Option Value} {base : Heap} {k : Nat} {f : Addr} {fd : FuncData} {x qual : Str} {st : Stmt} {N ps : List Str} {sp : Sp} (F : Fun K x qual st f fd) (S : FnScope N ps (defScope st))
    (len : ∀ vs H Q E, sp vs H Q E → vs.length = ps.length)
    (body : ∀ (cdv : Value) (A : Around) (outer : List PySem.Env) (s : Shared) (H : Hp) (vs : List V) (Q : VK) (E : XK), A.guards = some [] → Room k (A.deeper (envOfC qual (defScope st) s.heap.objs.size f cdv)) → sp vs H Q E →
      ∃ t, PSs (cxOf (L2.CX P w) P w K mg base N qual (defScope st) f cdv A outer s H E) (defBody st) t ∧ t { nx := fun _ H' => Q .non H', rt := Q } (L2.start N vs) H) : FnG P w K mg base (k + 1) f fd ps sp :=
  FnG.of_bodyC F S len fun cdv A outer s H vs Q E _ => body cdv A outer s H vs Q E

/-! ### promises over data -/
def ArgOk (K : PySem.W.Frag) (S : Addr → Prop) (H : Hp) (pen : Option (Addr × Addr)) : SV → V → Prop
  | .d x, v => Rep K S H x v
  | .pen, v => ∃ p, pen = some p ∧ v = .ref p.1
  | .lam f c q σ ds, v => v = .ref f ∧ LamOk K S H c q σ ds
  | .o a, v => v = .ref a
  | _, _ => False
def ArgsOk (K : PySem.W.Frag) (S : Addr → Prop) (H : Hp) (pen : Option (Addr × Addr)) : List SV → List V → Prop
  | [], vs => vs = []
  | x :: xs, vs => ∃ v ws, vs = v :: ws ∧ ArgOk K S H pen x v ∧ ArgsOk K S H pen xs ws
/-- the objects that are changed, as a callee finds them -/
def MuOk (G : PenK) (K : PySem.W.Frag) (S : Addr → Prop) (H : Hp) (pen : Option (Addr × Addr)) (n : Nt) : Prop :=
  (∀ a nd, n.μ a = some nd → NdOk K S H a nd ∧ ¬ S a ∧ (∀ p, pen = some p → a ≠ p.1 ∧ a ≠ p.2) ∧ ∀ q ∈ G.tab, a ≠ q.1) ∧ (G.chg = false → ∀ a, n.μ a = none)
structure After (G : PenK) (K : PySem.W.Frag) (S S' : Addr → Prop) (pen : Option (Addr × Addr)) (n : Nt) (H H' : Hp) (k : Nt) : Prop where
  grow : Grow S S' H H'
  dom : ∀ a, S' a → H' a ≠ none
  new : ∀ a, S' a → S a ∨ H a = none
  fr : ∀ a o, H a = some o → (∀ p, pen = some p → a ≠ p.1 ∧ a ≠ p.2) → (∀ q ∈ G.tab, a ≠ q.1) → n.μ a = none → H' a = some o
  tab : ∀ q ∈ G.tab, TabI S' H' q.1 q.2
  pen : ∀ p, pen = some p → G.inv H' p.1 p.2 k.n ∧ ¬ S' p.1 ∧ ¬ S' p.2
  mu : ∀ a nd, k.μ a = some nd → NdOk K S' H' a nd ∧ ¬ S' a ∧ (n.μ a ≠ none ∨ H a = none)
  mu0 : ∀ a, n.μ a ≠ none → k.μ a ≠ none
  mz : G.chg = false → ∀ a, k.μ a = none
def spM (G : PenK) (K : PySem.W.Frag) (mg : Str → Option Value) (ps : Nat) (m : List SV → W D) : Sp := fun vs H Q E =>
  ∃ (S : Addr → Prop) (pen : Option (Addr × Addr)) (args : List SV) (n : Nt) (P : D → Nt → Prop) (PX : Exc → Nt → Prop),
    args.length = ps ∧ (∀ a, S a → H a ≠ none) ∧ (∀ p, pen = some p → G.inv H p.1 p.2 n.n ∧ ¬ S p.1 ∧ ¬ S p.2) ∧ (∀ q ∈ G.tab, ¬ S q.1 ∧ TabI S H q.1 q.2) ∧ MuOk G K S H pen n ∧ ArgsOk K S H pen args vs ∧ m args n P PX ∧
    (∀ d k v S' H', P d k → After G K S S' pen n H H' k → Rep K S' H' d v → Q v H') ∧ ∀ x k S' H' cls dd, PX x k → After G K S S' pen n H H' k → RepX K mg S' H' x cls dd → E cls dd H'
section
variable {K : PySem.W.Frag} {S : Addr → Prop} {H : Hp} {pen : Option (Addr × Addr)}
theorem ArgsOk.len : ∀ {xs : List SV} {vs : List V}, ArgsOk K S H pen xs vs → vs.length = xs.length
  | [], _, h => by
    have e : _ = [] := h
    rw [e]
    rfl
  | _ :: xs, _, h => by
    obtain ⟨v, ws, rfl, _, q⟩ := h
    show ws.length + 1 = xs.length + 1
    rw [ArgsOk.len q]
theorem ArgsOk.get : ∀ {xs : List SV} {vs : List V} {i : Nat} {x : SV}, ArgsOk K S H pen xs vs → xs[i]? = some x → ∃ v, vs[i]? = some v ∧ ArgOk K S H pen x v
  | [], _, _, _, _, e => nomatch e
  | y :: xs, _, 0, x, h, e => by
    obtain ⟨v, ws, rfl, r, _⟩ := h
    cases e
    exact ⟨v, rfl, r⟩
  | y :: xs, _, i + 1, x, h, e => by
    obtain ⟨v, ws, rfl, _, q⟩ := h
    exact ArgsOk.get (i := i) q e
theorem ArgsOk.app : ∀ {xs ys : List SV} {vs ws : List V}, ArgsOk K S H pen xs vs → ArgsOk K S H pen ys ws → ArgsOk K S H pen (xs ++ ys) (vs ++ ws)
  | [], ys, vs, ws, h, q => by
    have e : vs = [] := h
    rw [e]
    exact q
  | x :: xs, ys, vs, ws, h, q => by
    obtain ⟨v, us, rfl, r, t⟩ := h
    exact ⟨v, us ++ ws, rfl, r, ArgsOk.app t q⟩
theorem ArgOk.grow {S' : Addr → Prop} {H' : Hp} (g : Grow S S' H H') : ∀ {x : SV} {v : V}, ArgOk K S H pen x v → ArgOk K S' H' pen x v
  | .d x, v, h => Rep.grow g x v h
  | .pen, _, h => h
  | .un, _, h => h.elim
  | .own _, _, h => h.elim
  | .ownK _, _, h => h.elim
  | .exc _, _, h => h.elim
  | .lam _ _ _ _ _, _, h => ⟨h.1, h.2.grow g⟩
  | .o _, _, h => h
theorem ArgsOk.grow {S' : Addr → Prop} {H' : Hp} (g : Grow S S' H H') : ∀ {xs : List SV} {vs : List V}, ArgsOk K S H pen xs vs → ArgsOk K S' H' pen xs vs
  | [], _, h => h
  | x :: xs, _, h => by
    obtain ⟨v, ws, e, r, q⟩ := h
    exact ⟨v, ws, e, r.grow g, ArgsOk.grow g q⟩
end

section
variable {G : PenK} {P : Program} {w : World} {K : PySem.W.Frag} {mg : Str → Option Value} {base : Heap}
theorem start_slot {N : List Str} {vs : List V} {i : Nat} : slot (L2.start N vs) i = vs[i]? := by
  unfold slot L2.start
  by_cases h : i < vs.length
  · rw [List.getElem?_append_left (by rw [List.length_map]; exact h), List.getElem?_map, List.getElem?_eq_getElem h]
    rfl
  · rw [List.getElem?_append_right (by rw [List.length_map]; omega), List.getElem?_replicate, List.getElem?_eq_none (by omega)]
    split <;> rfl
/-- the state at a body's entry -/
theorem SI.entry {S : Addr → Prop} {H : Hp} {pen : Option (Addr × Addr)} {args : List SV} {vs : List V} {N : List Str} {n : Nt} (hl : args.length ≤ N.length) (dom : ∀ a, S a → H a ≠ none) (hp : ∀ p, pen = some p → G.inv H p.1 p.2 n.n ∧ ¬ S p.1 ∧ ¬ S p.2) (ht : ∀ q ∈ G.tab, ¬ S q.1 ∧ TabI S H q.1 q.2) (hm : MuOk G K S H pen n)
    (r : ArgsOk K S H pen args vs) : SI G K ⟨S, H, pen, fun a => H a ≠ none ∧ ¬ S a, fun a => n.μ a ≠ none⟩ (L2.start N vs) H (args ++ List.replicate (N.length - args.length) SV.un) n := by
  have lv := r.len
  have key : ∀ (i : Nat) (sv : SV), (args ++ List.replicate (N.length - args.length) SV.un)[i]? = some sv → sv = .un ∨ args[i]? = some sv := fun i sv e => by
    by_cases h : i < args.length
    · rw [List.getElem?_append_left h] at e
      exact .inr e
    · rw [List.getElem?_append_right (by omega), List.getElem?_replicate] at e
      split at e
      · exact .inl (Option.some.inj e).symm
      · cases e
  have noO : ∀ (i : Nat) (sv : SV), (args ++ List.replicate (N.length - args.length) SV.un)[i]? = some sv → sv.isOwn = true → False := fun i sv e ho => by
    rcases key i sv e with rfl | e
    · cases ho
    · obtain ⟨v, _, q⟩ := r.get e
      cases sv with
      | own _ => exact q
      | ownK _ => exact q
      | _ => cases ho
  refine ⟨?_, fun i sv e => ?_, fun i sv a e ho => (noO i sv e ho).elim, fun i j sv sv' a _ e _ ho => (noO i sv e ho).elim, dom, fun a o e _ => e, fun p e => ?_, fun a h => ⟨h.2, h.1⟩, fun q e => ⟨⟨(ht q e).2.there, (ht q e).1⟩, (ht q e).2⟩, fun a nd e => ⟨(hm.1 a nd e).1, (hm.1 a nd e).2.1, .inl (by show n.μ a ≠ none; rw [e]; exact fun z => nomatch z), fun z => ?_⟩, fun a h => ⟨h, ?_⟩, hm.2⟩
  · unfold L2.start
    rw [List.length_append, List.length_replicate, List.length_append, List.length_map, List.length_replicate, lv]
  · rcases key i sv e with rfl | e
    · trivial
    · obtain ⟨v, e2, q⟩ := r.get e
      rw [start_slot, e2]
      cases sv with
      | d x => exact ⟨v, rfl, q⟩
      | pen => obtain ⟨p, h1, h2⟩ := q; exact ⟨p, h1, by rw [h2]⟩
      | un => trivial
      | own _ => exact q.elim
      | ownK _ => exact q.elim
      | exc _ => exact q.elim
      | lam _ _ _ _ _ => exact ⟨by rw [q.1], q.2⟩
      | o _ => exact congrArg some q
  · obtain ⟨h1, h2, h3⟩ := hp p e
    obtain ⟨k1, k2⟩ := G.there h1
    exact ⟨h1, h2, h3, k1, k2⟩
  · rcases z with ⟨p, e2, z⟩ | ⟨q, e2, z⟩
    · exact z.elim ((hm.1 a nd e).2.2.1 p e2).1 ((hm.1 a nd e).2.2.1 p e2).2
    · exact (hm.1 a nd e).2.2.2 q e2 z
  · obtain ⟨nd, e⟩ := Option.ne_none_iff_exists'.mp h
    exact (hm.1 a nd e).1.there
theorem SI.after {S S' : Addr → Prop} {H H' : Hp} {pen : Option (Addr × Addr)} {σ : L2.St} {ρ : Env} {n k : Nt} (g : Grow S S' H H') (I : SI G K ⟨S', H, pen, fun a => H a ≠ none ∧ ¬ S a, fun a => n.μ a ≠ none⟩ σ H' ρ k) : After G K S S' pen n H H' k := by
  refine ⟨g, I.dom, fun a h => ?_, fun a o e h ht hn => I.fr a o e fun z => z.elim (fun z => z.elim (fun ⟨p, e2, z⟩ => z.elim (h p e2).1 (h p e2).2) (fun ⟨q, e2, z⟩ => ht q e2 z)) fun z => z hn, fun q e => (I.tab q e).2, fun p e => ?_, fun a nd e => ⟨(I.mu a nd e).1, (I.mu a nd e).2.1, (I.mu a nd e).2.2.1⟩, fun a h => (I.mu0 a h).1, I.mz⟩
  · by_cases hs : S a
    · exact .inl hs
    · exact .inr (Classical.byContradiction fun z => (I.no a ⟨z, hs⟩).1 h)
  · obtain ⟨h1, h2, h3, _⟩ := I.pen p e
    exact ⟨h1, h2, h3⟩
end

/-! ### arguments of a def -/
section
variable {G : PenK} {X : Cx} {Wx : WX}
def GlV (G : PenK) (X : Cx) (c : C) (σ : L2.St) (ρ : Env) (H : Hp) (P : List SV → Nt → Prop) (Q : List V → Hp → Prop) : Prop :=
  ∀ ds k vs S' H', P ds k → Grow c.S S' H H' → SI G X.K (c.to S') σ H' ρ k → ArgsOk X.K S' H' c.pen ds vs → Q vs H'
def tVr (G : PenK) (X : Cx) (Wx : WX) (g : Env → W (List SV)) : TA := fun σ H Q => ∃ c ρ n P PX, SI G X.K c σ H ρ n ∧ g ρ n P PX ∧ GlV G X c σ ρ H P Q ∧ OKx G X Wx c σ ρ H PX
def AV (G : PenK) (X : Cx) (Wx : WX) (es : List Expr) (g : Env → W (List SV)) : Prop := PA X es (tVr G X Wx g)
def KV (G : PenK) (X : Cx) (Wx : WX) (kws : List Keyword) (g : Env → W (List SV)) : Prop := PK X kws (tVr G X Wx g)
theorem v_nil : AV G X Wx [] (fun _ => ret []) := weakA pa_nil fun σ H Q ⟨c, ρ, n, P, PX, I, q, hg, hx⟩ => hg [] n [] c.S H q .refl I rfl
theorem v_cons {e : Expr} {es : List Expr} {g : Env → W D} {gs : Env → W (List SV)} (h : E G X Wx e g) (hs : AV G X Wx es gs) (hp : starEach (e :: es) X.env = (false, eval e X.env) :: starEach es X.env := by rfl) :
    AV G X Wx (e :: es) (fun ρ => bnd (g ρ) fun x => bnd (gs ρ) fun xs => ret (.d x :: xs)) :=
  weakA (pa_cons h hs hp) fun σ H Q ⟨c, ρ, n, P, PX, I, q, hg, hx⟩ => tE.bnd I q hx fun d k u S' H' p g I' hx' r =>
    ⟨c.to S', ρ, k, fun ds k => P (.d d :: ds) k, PX, I', p, fun ds k2 us S2 H2 p2 g2 I2 r2 => hg (.d d :: ds) k2 (u :: us) S2 H2 p2 (g.trans g2) I2 ⟨u, us, rfl, Rep.grow g2 _ _ r, r2⟩, hx'⟩
def isPen (ρ : Env) (i : Nat) {α : Type} (m : W α) : W α := match ρ[i]? with
  | some .pen => m
  | _ => stuck
theorem isPen_inv {ρ : Env} {i : Nat} {α : Type} {m : W α} {n : Nt} {P : α → Nt → Prop} {PX : Exc → Nt → Prop} (h : isPen ρ i m n P PX) : ρ[i]? = some .pen ∧ m n P PX := by
  unfold isPen at h
  cases e : ρ[i]? with
  | none => rw [e] at h; exact h.elim
  | some sv =>
    rw [e] at h
    cases sv with
    | pen => exact ⟨rfl, h⟩
    | _ => exact h.elim
theorem v_pen {x : Str} {pos : Pos} {es : List Expr} {gs : Env → W (List SV)} (i : Nat) (hs : AV G X Wx es gs) (hN : X.N[i]? = some x := by rfl) (hv : Vis X.env.scope x := by first | exact Or.inl rfl | exact Or.inr (Or.inl rfl) | exact Or.inr (Or.inr rfl)) (hd : (x == ("__debug__" : Str)) = false := by decide)
    (hcd : (x == ("__classdict__" : Str)) = false := by decide) (hp : starEach (.Name x pos :: es) X.env = (false, eval (.Name x pos) X.env) :: starEach es X.env := by rfl) : AV G X Wx (.Name x pos :: es) (fun ρ => isPen ρ i (bnd (gs ρ) fun xs => ret (.pen :: xs))) :=
  weakA (pa_cons (pe_var hN hv hd hcd) hs hp) fun σ H Q ⟨c, ρ, n, P, PX, I, q, hg, hx⟩ => by
    obtain ⟨e, q⟩ := isPen_inv q
    obtain ⟨p, e1, e2⟩ := I.slots i _ e
    exact ⟨.ref p.1, slot_some e2, c, ρ, n, fun ds k => P (.pen :: ds) k, PX, I, q, fun ds k2 us S2 H2 p2 g2 I2 r2 => hg (.pen :: ds) k2 (.ref p.1 :: us) S2 H2 p2 g2 I2 ⟨_, us, rfl, ⟨p, e1, rfl⟩, r2⟩, hx⟩
theorem kv_nil : KV G X Wx [] (fun _ => ret []) := ⟨fun pos pins s σ H Q I ⟨c, ρ, n, P, PX, I', q, hg, hx⟩ => pk_nil.run pos pins s σ H Q I (hg [] n [] c.S H q .refl I' rfl)⟩
theorem kv_cons {nm : Option Str} {e : Expr} {kpos : Pos} {kws : List Keyword} {g : Env → W D} {gs : Env → W (List SV)} (h : E G X Wx e g) (hs : KV G X Wx kws gs) : KV G X Wx (⟨nm, e, kpos⟩ :: kws) (fun ρ => bnd (g ρ) fun x => bnd (gs ρ) fun xs => ret (.d x :: xs)) :=
  ⟨fun pos pins s σ H Q I ⟨c, ρ, n, P, PX, I', q, hg, hx⟩ => (pk_cons h hs).run pos pins s σ H Q I (tE.bnd I' q hx fun d k u S' H' p g I2 hx' r =>
    ⟨c.to S', ρ, k, fun ds k => P (.d d :: ds) k, PX, I2, p, fun ds k2 us S2 H2 p2 g2 I3 r2 => hg (.d d :: ds) k2 (u :: us) S2 H2 p2 (g.trans g2) I3 ⟨u, us, rfl, Rep.grow g2 _ _ r, r2⟩, hx'⟩)⟩

/-- a call: one without the source of draws costs none -/
def callM (m : List SV → W D) (args : List SV) : W D :=
  if args.any (fun s => match s with | .pen => true | _ => false) then m args else fun n P PX => m args ⟨0, n.μ⟩ (fun d k => P d ⟨n.n, k.μ⟩) fun x k => PX x ⟨n.n, k.μ⟩
theorem ArgsOk.nopen {K : PySem.W.Frag} {S : Addr → Prop} {H : Hp} {pen : Option (Addr × Addr)} : ∀ {xs : List SV} {vs : List V}, xs.any (fun s => match s with | .pen => true | _ => false) = false → ArgsOk K S H pen xs vs → ArgsOk K S H none xs vs
  | [], _, _, h => h
  | x :: xs, _, e, h => by
    obtain ⟨v, ws, e1, r, q⟩ := h
    rw [List.any_cons, Bool.or_eq_false_iff] at e
    refine ⟨v, ws, e1, ?_, ArgsOk.nopen e.2 q⟩
    cases x with
    | pen => cases e.1
    | _ => exact r
/-- the caller's state behind a call -/
theorem SI.called {K : PySem.W.Frag} {c : C} {σ : L2.St} {ρ : Env} {H H' : Hp} {n k : Nt} {S' : Addr → Prop} {pen : Option (Addr × Addr)} (I : SI G K c σ H ρ n) (h : After G K c.S S' pen n H H' k) (hp : pen = c.pen ∨ (pen = none ∧ k.n = n.n)) : SI G K (c.to S') σ H' ρ k := by
  have keep : ∀ a o, H a = some o → ¬ G.pens c a → n.μ a = none → H' a = some o := fun a o e np nm => h.fr a o e (fun p ep => by
    rcases hp with z | z
    · exact ⟨fun q => np (.inl (.inl ⟨p, z ▸ ep, .inl q⟩)), fun q => np (.inl (.inl ⟨p, z ▸ ep, .inr q⟩))⟩
    · rw [z.1] at ep; cases ep) (fun q hq z => np (.inl (.inr ⟨q, hq, z⟩))) nm
  have nomu : ∀ a o, c.H0 a = some o → ¬ G.pens c a → n.μ a = none := fun a o e np => by
    cases q : n.μ a with
    | none => rfl
    | some nd =>
      rcases (I.mu a nd q).2.2.1 with z | z
      · exact absurd (.inr z) np
      · rw [e] at z; cases z
  refine ⟨I.len, fun i sv e => (I.slots i sv e).grow h.grow fun a ea ho => ?_, fun i sv a e ho es => ?_, I.apart, h.dom, fun a o e np => keep a o (I.fr a o e np) np (nomu a o e np), fun p e => ?_, fun a q => ?_, fun q e => ⟨(I.tab q e).1, h.tab q e⟩, fun a nd e => ?_, fun a q => ⟨h.mu0 a (I.mu0 a q).1, (I.mu0 a q).2⟩, h.mz⟩
  · have y := I.own i sv a e ho ea
    cases q : H a with
    | none => exact absurd q (I.own_there ⟨i, sv, e, ho, ea⟩)
    | some o => exact keep a o q (I.penOld y.2.1) y.2.2
  · have y := I.own i sv a e ho es
    refine ⟨fun z => (h.new a z).elim y.1 (I.own_there ⟨i, sv, e, ho, es⟩), y.2.1, ?_⟩
    cases q : k.μ a with
    | none => rfl
    | some nd => exact (h.mu a nd q).2.2.elim (fun z => absurd y.2.2 z) fun z => absurd z (I.own_there ⟨i, sv, e, ho, es⟩)
  · obtain ⟨h1, h2, h3, h4, h5⟩ := I.pen p e
    rcases hp with z | ⟨z, z2⟩
    · obtain ⟨k1, k2, k3⟩ := h.pen p (z ▸ e)
      exact ⟨k1, k2, k3, h4, h5⟩
    · obtain ⟨k1, k2⟩ := G.there h1
      have same : ∀ b, H b ≠ none → (∀ q ∈ G.tab, b ≠ q.1) → n.μ b = none → H' b = H b := fun b hb ht hn => by
        cases q : H b with
        | none => exact absurd q hb
        | some o => exact h.fr b o q (fun p' e' => by rw [z] at e'; cases e') ht hn
      have nt : ∀ b, (∃ xs, H b = some (.lst xs)) → ∀ q ∈ G.tab, b ≠ q.1 := fun b ⟨xs, e1⟩ q hq z => by
        obtain ⟨ps, e2, _⟩ := (I.tab q hq).2
        rw [← z, e1] at e2
        cases e2
      have pm : ∀ b, (b = p.1 ∨ b = p.2) → n.μ b = none := fun b hb => by
        cases q : n.μ b with
        | none => rfl
        | some nd => exact absurd (.inl ⟨p, e, hb⟩) (I.mu b nd q).2.2.2
      rw [z2]
      exact ⟨G.dep h1 (same _ k1 (nt _ (G.isL h1).1) (pm _ (.inl rfl))) (same _ k2 (nt _ (G.isL h1).2) (pm _ (.inr rfl))), fun q => (h.new _ q).elim h2 k1, fun q => (h.new _ q).elim h3 k2, h4, h5⟩
  · obtain ⟨h1, h2⟩ := I.no a q
    refine ⟨fun z => (h.new a z).elim h1 fun z => ?_, h2⟩
    have := I.freeOld z
    exact h2 this
  · obtain ⟨m1, m2, m3⟩ := h.mu a nd e
    refine ⟨m1, m2, ?_⟩
    rcases m3 with z | z
    · obtain ⟨nd0, e0⟩ := Option.ne_none_iff_exists'.mp z
      exact (I.mu a nd0 e0).2.2
    · refine ⟨.inr (I.freeOld z), fun w => ?_⟩
      rcases w with ⟨p, e2, w⟩ | ⟨q, e2, w⟩
      · obtain ⟨k1, k2⟩ := G.there (I.pen p e2).1
        exact w.elim (fun w => k1 (w ▸ z)) fun w => k2 (w ▸ z)
      · exact (I.tabN e2).2.2 (w ▸ z)
/-- the objects that are changed, for a callee -/
theorem SI.muOk {K : PySem.W.Frag} {c : C} {σ : L2.St} {ρ : Env} {H : Hp} {n : Nt} (I : SI G K c σ H ρ n) (pen : Option (Addr × Addr)) (hp : ∀ p, pen = some p → c.pen = some p) : MuOk G K c.S H pen n :=
  ⟨fun a nd e => ⟨(I.mu a nd e).1, (I.mu a nd e).2.1, fun p ep => ⟨fun z => (I.mu a nd e).2.2.2 (.inl ⟨p, hp p ep, .inl z⟩), fun z => (I.mu a nd e).2.2.2 (.inl ⟨p, hp p ep, .inr z⟩)⟩, fun q hq z => (I.mu a nd e).2.2.2 (.inr ⟨q, hq, z⟩)⟩, I.mz⟩
theorem call_core {c : C} {σ : L2.St} {ρ : Env} {H : Hp} {n : Nt} {P : D → Nt → Prop} {PX : Exc → Nt → Prop} {Q : VK} {m : List SV → W D} {args : List SV} {vs : List V} {ps : Nat} (I : SI G X.K c σ H ρ n) (hl : args.length = ps) (r : ArgsOk X.K c.S H c.pen args vs)
    (q : callM m args n P PX) (hg : Gl1 G X c σ ρ H P Q) (hx : OKx G X Wx c σ ρ H PX) : spM G X.K X.mg ps m vs H Q (WE Wx σ) := by
  unfold callM at q
  by_cases hp : args.any (fun s => match s with | .pen => true | _ => false) = true
  · rw [if_pos hp] at q
    refine ⟨c.S, c.pen, args, n, P, PX, hl, I.dom, fun p e => ?_, fun q e => ⟨(I.tabN e).1, (I.tab q e).2⟩, I.muOk c.pen fun _ h => h, r, q, fun d k v S' H' p h r => hg d k v S' H' p h.grow (I.called h (.inl rfl)) r, fun x k S' H' cls dd p h r => hx x k S' H' cls dd p h.grow (I.called h (.inl rfl)) r⟩
    obtain ⟨h1, h2, h3, _⟩ := I.pen p e
    exact ⟨h1, h2, h3⟩
  · rw [if_neg hp] at q
    have fix : ∀ {S' H' k}, After G X.K c.S S' none ⟨0, n.μ⟩ H H' k → After G X.K c.S S' none n H H' ⟨n.n, k.μ⟩ := fun h => ⟨h.grow, h.dom, h.new, h.fr, h.tab, (fun p e => nomatch e), h.mu, h.mu0, h.mz⟩
    exact ⟨c.S, none, args, ⟨0, n.μ⟩, _, _, hl, I.dom, fun p e => (nomatch e), fun q e => ⟨(I.tabN e).1, (I.tab q e).2⟩, I.muOk none (fun _ e => nomatch e), r.nopen (by simpa using hp), q, fun d k v S' H' p h r => hg d ⟨n.n, k.μ⟩ v S' H' p h.grow (I.called (fix h) (.inr ⟨rfl, rfl⟩)) r, fun x k S' H' cls dd p h r => hx x ⟨n.n, k.μ⟩ S' H' cls dd p h.grow (I.called (fix h) (.inr ⟨rfl, rfl⟩)) r⟩
def onB {α : Type} (b : Bool) (m : W α) : W α := match b with
  | true => m
  | false => stuck
def arity (n : Nat) (args : List SV) {α : Type} (m : W α) : W α := onB (Nat.beq args.length n) m
theorem arity_inv {n : Nat} {args : List SV} {α : Type} {m : W α} {k : Nt} {P : α → Nt → Prop} {PX : Exc → Nt → Prop} (h : arity n args m k P PX) : args.length = n ∧ m k P PX := by
  unfold arity at h
  cases e : Nat.beq args.length n with
  | true => rw [e] at h; exact ⟨Nat.eq_of_beq_eq_true e, h⟩
  | false => rw [e] at h; exact h.elim
/-- the callee runs -/
theorem run_G {k : Nat} {f : Addr} {fd : FuncData} {ps : List Str} {sp : Sp} {pins : List (Addr × Obj)} {σ : L2.St} {H : Hp} {s : Shared} {Q : VK} {a : Args} {us : List Value} {vs : List V} (F : FnG X.prog X.w X.K X.mg X.base k f fd ps sp) (hg : X.A.guards = some []) (hr : Room k X.A)
    (tk : Takes X Wx) (I : Inv X pins σ H s) (hb : BindsTo s fd a (ps.zip us)) (r : Vals vs us) (h : sp vs H Q (WE Wx σ)) : codeAny (model X.prog X.w) X.A (.call (.ref f) a) (fun r s' => match r with | .ok (.ret u) => EP X pins σ Q u s' | .ok _ => False | .error e => X.xe e s') s :=
  codeAny_mono (F.run X.A X.stack s H a us vs Q (WE Wx σ) hg hr I.env0 hb r h) fun r s' hq => by
    cases r with
    | error e => exact passAt tk σ pins H s e s' I hq
    | ok fl =>
      cases fl with
      | ret u => exact I.after hq
      | next => exact hq.elim
      | brk => exact hq.elim
      | cont => exact hq.elim
theorem run_call {k : Nat} {f : Addr} {fd : FuncData} {ps : List Str} {sp : Sp} {pins : List (Addr × Obj)} {σ : L2.St} {H : Hp} {s : Shared} {Q : VK} {us ws : List Value} {kw : List (Str × Value)} {vs : List V} (F : FnG X.prog X.w X.K X.mg X.base k f fd ps sp) (hg : X.A.guards = some []) (hr : Room k X.A)
    (tk : Takes X Wx) (I : Inv X pins σ H s) (hb : BindsTo s fd ⟨us, kw⟩ (ps.zip ws)) (r : Vals vs ws) (h : sp vs H Q (WE Wx σ)) : wpAny (model X.prog X.w) X.A (call (.ref f) us kw) (EP X pins σ Q) X.xe s :=
  wpAny_call (codeAny_mono (run_G F hg hr tk I hb r h) fun r s' hq => by
    cases r with
    | error e => exact hq
    | ok fl => cases fl <;> exact hq)
/-- what a def is known by: its address, promise, how arguments come to its parameters -/
structure Kn (G : PenK) (X : Cx) (k : Nat) (x : Str) (f : Addr) (fd : FuncData) (ps : List Str) (m : List SV → W D) : Prop where
  F : FnG X.prog X.w X.K X.mg X.base k f fd ps (spM G X.K X.mg ps.length m)
  mg : X.mg x = some (.ref f)
  kp : PySem.W.keepIn X.K (.ref f) = true
/-- f(a, b) -/
theorem e_call {k : Nat} {x : Str} {f : Addr} {fd : FuncData} {ps : List Str} {m : List SV → W D} {p pos : Pos} {e : Expr} {es : List Expr} {gs : Env → W (List SV)} (n : Kn G X k x f fd ps m) (hgd : X.A.guards = some []) (hr : Room k X.A) (tk : Takes X Wx) (hb : Binds X.K fd ps []) (ha : AV G X Wx (e :: es) gs)
    (hg : Gl X x := by rfl) (hdb : (x == ("__debug__" : Str)) = false := by decide) (he : starEach (e :: es) X.env = (false, eval e X.env) :: starEach es X.env := by rfl) (hpl : (backTo pos (starEach es X.env)).any (·.1) = false := by rfl) :
    E G X Wx (.Call (.Name x p) (e :: es) [] pos) (fun ρ => bnd (gs ρ) fun args => arity ps.length args (callM m args)) :=
  ⟨fun pins s σ H Q I ⟨c, ρ, k0, P, PX, I', q, hgl, hx⟩ => by
    refine wpAny_Call_Name_kw (ld_glob I hg n.mg ?_ hdb)
    refine PySem.W.callWith_K (h₀ := X.base) I.ok.mod.kin n.kp (thn (ha.run pos pins s σ H (fun vs H' => vs.length = ps.length ∧ spM G X.K X.mg ps.length m vs H' Q (WE Wx σ)) I ⟨c, ρ, k0, fun args k => arity ps.length args (callM m args) k P PX, PX, I', q, fun args k vs S' H' p g I2 r =>
      ⟨r.len.trans (arity_inv p).1, call_core I2 (arity_inv p).1 r (arity_inv p).2 (hgl.grow g) (hx.grow g)⟩, hx⟩) fun us s1 ⟨vs, H1, I1, r1, q1, q2⟩ => ⟨I1.kIn, ?_⟩) he hpl
    have hb1 := hb s1 us I1.kIn (by rw [List.append_nil, ← r1.length]; exact q1)
    rw [List.append_nil] at hb1
    exact run_call n.F hgd hr tk I1 hb1 r1 q2⟩
/-- how a call by names puts the values: for each parameter the place of its value among those given -/
def pick {α : Type} (order : List Nat) (l : List α) : List α := order.filterMap fun i => l[i]?
theorem pick_vals {order : List Nat} {vs : List V} {us : List Value} (r : Vals vs us) : Vals (pick order vs) (pick order us) := by
  unfold pick
  induction order with
  | nil => exact .nil
  | cons i o ih =>
    rw [List.filterMap_cons, List.filterMap_cons]
    cases e : vs[i]? with
    | none =>
      have e2 : us[i]? = none := r.none_of e
      rw [e2]
      exact ih
    | some v =>
      obtain ⟨u, e2, q⟩ := r.get e
      rw [e2]
      exact .cons q ih
theorem pick_args {K : PySem.W.Frag} {S : Addr → Prop} {H : Hp} {pen : Option (Addr × Addr)} {order : List Nat} {xs : List SV} {vs : List V} (r : ArgsOk K S H pen xs vs) : ArgsOk K S H pen (pick order xs) (pick order vs) := by
  unfold pick
  induction order with
  | nil => exact rfl
  | cons i o ih =>
    rw [List.filterMap_cons, List.filterMap_cons]
    cases e : xs[i]? with
    | none =>
      have e2 : vs[i]? = none := List.getElem?_eq_none (by rw [r.len]; exact List.getElem?_eq_none_iff.mp e)
      rw [e2]
      exact ih
    | some x =>
      obtain ⟨v, e2, q⟩ := r.get e
      rw [e2]
      exact ⟨v, _, rfl, q, ih⟩
def KBd (K : PySem.W.Frag) (fd : FuncData) (ps : List Str) (n : Nat) (ks : List Str) (order : List Nat) : Prop :=
  ∀ (s : Shared) (us ws : List Value), K.In s.heap → us.length = n → ws.length = ks.length → BindsTo s fd ⟨us, ks.zip ws⟩ (ps.zip (pick order (us ++ ws)))
/-- f(k = v, ..) -/
theorem e_callK0 {k : Nat} {x : Str} {f : Addr} {fd : FuncData} {ps ks : List Str} {order : List Nat} {m : List SV → W D} {p pos : Pos} {kws : List Keyword} {gs : Env → W (List SV)} (n : Kn G X k x f fd ps m) (hgd : X.A.guards = some []) (hr : Room k X.A) (tk : Takes X Wx) (hb : KBd X.K fd ps 0 ks order) (ha : KV G X Wx kws gs)
    (hall : (backToKw pos (keywordEach kws X.env)).all (·.1.isSome) = true := by rfl) (hks : (backToKw pos (keywordEach kws X.env)).filterMap (·.1) = ks := by rfl) (hg : Gl X x := by rfl) (hdb : (x == ("__debug__" : Str)) = false := by decide)
    (hpl : ((backTo pos (starEach [] X.env)).any (·.1) || (backToKw pos (keywordEach kws X.env)).any (·.1.isNone)) = false := by rfl) :
    E G X Wx (.Call (.Name x p) [] kws pos) (fun ρ => bnd (gs ρ) fun args => arity ks.length args (arity ps.length (pick order args) (callM m (pick order args)))) :=
  ⟨fun pins s σ H Q I ⟨c, ρ, k0, P, PX, I', q, hgl, hx⟩ => by
    refine wpAny_Call_Name_kw (ld_glob I hg n.mg ?_ hdb)
    refine PySem.W.callWith_KW0 (h₀ := X.base) I.ok.mod.kin n.kp hall (thn (ha.run pos pins s σ H (fun vs H' => vs.length = ks.length ∧ spM G X.K X.mg ps.length m (pick order vs) H' Q (WE Wx σ)) I ⟨c, ρ, k0, fun args k => arity ks.length args (arity ps.length (pick order args) (callM m (pick order args))) k P PX, PX, I', q, fun args k vs S' H' p g I2 r =>
      ⟨r.len.trans (arity_inv p).1, call_core I2 (arity_inv (arity_inv p).2).1 (pick_args r) (arity_inv (arity_inv p).2).2 (hgl.grow g) (hx.grow g)⟩, hx⟩) fun us s1 ⟨vs, H1, I1, r1, q1, q2⟩ => ⟨I1.kIn, ?_⟩) hpl
    rw [hks]
    exact run_call n.F hgd hr tk I1 (hb s1 [] us I1.kIn rfl (by rw [← r1.length]; exact q1)) (pick_vals r1) q2⟩
end
end PL

/-! The layer: built-ins over data. -/
namespace PL
open PySem PySem.Spec L2

/-! ### kinds -/
inductive Ty where
  | int | bool | str | tup | lst | dic
  deriving DecidableEq
def Ty.nm : Ty → String
  | .int => "int" | .bool => "bool" | .str => "str" | .tup => "tuple" | .lst => "list" | .dic => "dict"
def D.ty : D → String
  | .non => "NoneType" | .bl _ => "bool" | .int _ => "int" | .str _ => "str" | .lst _ => "list" | .tup _ => "tuple" | .dic _ => "dict" | .ins _ _ _ => "object"
def isT : Ty → D → Bool
  | .int, .int _ => true
  | .int, .bl _ => true
  | .bool, .bl _ => true
  | .str, .str _ => true
  | .tup, .tup _ => true
  | .lst, .lst _ => true
  | .dic, .dic _ => true
  | _, _ => false
def isA : List Ty → D → Bool
  | [], _ => false
  | t :: ts, d => isT t d || isA ts d
/-- what isinstance finds for each built-in class -/
def KitD (K : PySem.W.Frag) (cls : Value) (d : D) : Prop := ∀ t : Ty, PySem.W.kitOne K cls (.type t.nm) = some (isT t d)
theorem kit_D {K : PySem.W.Frag} (d : D) (hd : d.ty ≠ "object") : KitD K (.type d.ty) d := by
  intro t
  cases d <;> first | exact absurd rfl hd | (cases t <;> refine kit_ty ?_ <;> simp only [D.ty, Ty.nm, isT] <;> decide +kernel)
theorem kit_I {K : PySem.W.Frag} {c f : Str} {C : Addr} {x : D} (i : InsC K c f C) : KitD K (.ref C) (.ins c f x) := by
  intro t
  cases t <;> exact i.kit _ (by decide)
theorem kit_A {K : PySem.W.Frag} {cls : Value} {d : D} (h : KitD K cls d) : ∀ ts : List Ty, PySem.W.kitAny K cls (ts.map fun t => .type t.nm) = some (isA ts d)
  | [] => kitAny_nil
  | t :: ts => kitAny_cons (h t) (fun h1 => by show _ = some (isT t d || isA ts d); rw [h1, Bool.false_or]; exact kit_A h ts) fun h => by show (isT t d || isA ts d) = true; rw [h, Bool.true_or]

section
variable {G : PenK} {X : Cx} {Wx : WX}
theorem Rep.tyX {K : PySem.W.Frag} {S : Addr → Prop} {H : Hp} {d : D} {v : V} (r : Rep K S H d v) : ∃ cls, TyX K H v cls ∧ KitD K cls d := by
  cases d with
  | non => cases r; exact ⟨_, .base .non, kit_D .non (by simp [D.ty])⟩
  | bl b => cases r; exact ⟨_, .base (.bl b), kit_D (.bl b) (by simp [D.ty])⟩
  | int i => cases r; exact ⟨_, .base (.int i), kit_D (.int i) (by simp [D.ty])⟩
  | str x => obtain ⟨rfl, _⟩ := r; exact ⟨_, .base (.str x), kit_D (.str x) (by simp [D.ty])⟩
  | lst xs => obtain ⟨a, vs, rfl, r1, _⟩ := r; exact ⟨_, .base (.lst r1.2), kit_D (.lst xs) (by simp [D.ty])⟩
  | tup xs =>
    obtain ⟨a, vs, rfl, r1, _⟩ := r
    rcases r1 with ⟨_, o, h, _⟩ | ⟨o, its, n, h1, h2, _⟩
    · exact ⟨_, .fTuple h, kit_D (.tup xs) (by simp [D.ty])⟩
    · exact ⟨_, .kTuple h1 h2, kit_D (.tup xs) (by simp [D.ty])⟩
  | dic kvs =>
    obtain ⟨a, vs, rfl, r1, _⟩ := r
    rcases r1.2 with h | ⟨o, h⟩
    · exact ⟨_, .base (.dK h), kit_D (.dic kvs) (by simp [D.ty])⟩
    · exact ⟨_, .fDict h, kit_D (.dic kvs) (by simp [D.ty])⟩
  | ins cn f x =>
    obtain ⟨a, C, dx, w, rfl, i, ⟨_, ha⟩, _⟩ := r
    exact ⟨_, .base (.ins ha i.cls i.ca i.cn i.ct i.cm), kit_I i⟩
theorem two_a {e e2 : Expr} {te : TE} {t2 : TE} (h : PE X e te) (h2 : PE X e2 t2) (hp : starEach [e, e2] X.env = (false, eval e X.env) :: starEach [e2] X.env := by rfl) (hp2 : starEach [e2] X.env = (false, eval e2 X.env) :: starEach [] X.env := by rfl) :
    PA X [e, e2] (tCons te (tCons t2 tNil)) := pa_cons h (pa_cons h2 pa_nil hp2) hp
/-- isinstance(e, T) -/
theorem e_isi {x : Str} {p px pos : Pos} {e : Expr} {g : Env → W D} (t : Ty) (hm : X.mg "isinstance" = none) (hmx : X.mg x = none) (hbx : bootBuiltins x = some (.type t.nm)) (h : E G X Wx e g)
    (hg : Gl X "isinstance" := by rfl) (hgx : Gl X x := by rfl) (hn : x ≠ "__name__" := by decide) (hdb : (x == ("__debug__" : Str)) = false := by decide) (he : starEach [e, .Name x px] X.env = (false, eval e X.env) :: starEach [.Name x px] X.env := by rfl)
    (he2 : starEach [.Name x px] X.env = (false, eval (.Name x px) X.env) :: starEach [] X.env := by rfl) (hpl : (backTo pos (starEach [.Name x px] X.env)).any (·.1) = false := by rfl) :
    E G X Wx (.Call (.Name "isinstance" p) [e, .Name x px] [] pos) (fun ρ => bnd (g ρ) fun d => ret (.bl (isT t d))) :=
  weakE (pe_callB call_isi hg hm PyProof.Rows.boot_isinstance (two_a h (pe_bltn (v := .ty t.nm) hgx hmx hbx rfl hn hdb) he he2) (by decide) (by decide) he hpl) fun σ H Q ⟨c, ρ, n, P, PX, I, q, hg, hx⟩ => tE.bnd I q hx fun d k u S' H' p g I' hx' r =>
    let ⟨_, h1, h2⟩ := r.tyX
    ⟨u, .ty t.nm, _, _, isT t d, rfl, .ty _, h1, h2 t, hg (.bl (isT t d)) k _ S' H' p g I' rfl⟩
/-- a display of built-in classes -/
def Cl (X : Cx) (es : List Expr) (ts : List Ty) : Prop := PA X es (fun _ H Q => Q (ts.map fun t => .ty t.nm) H)
theorem cl_nil : Cl X [] [] := pa_nil
theorem cl_cons {x : Str} {px : Pos} {es : List Expr} {ts : List Ty} (t : Ty) (hmx : X.mg x = none) (hbx : bootBuiltins x = some (.type t.nm)) (h : Cl X es ts) (hgx : Gl X x := by rfl) (hn : x ≠ "__name__" := by decide) (hdb : (x == ("__debug__" : Str)) = false := by decide)
    (hp : starEach (.Name x px :: es) X.env = (false, eval (.Name x px) X.env) :: starEach es X.env := by rfl) : Cl X (.Name x px :: es) (t :: ts) :=
  weakA (pa_cons (pe_bltn (v := .ty t.nm) hgx hmx hbx rfl hn hdb) h hp) fun σ H Q q => q
theorem cls_all : ∀ ts : List Ty, Paired ClsV (ts.map fun t => V.ty t.nm) (ts.map fun t => Value.type t.nm)
  | [] => .nil
  | t :: ts => .cons (.ty _) (cls_all ts)
/-- isinstance(e, (T, U)) -/
theorem e_isis {p pt pos : Pos} {k0 : Nat} {e : Expr} {es : List Expr} {ts : List Ty} {g : Env → W D} (hm : X.mg "isinstance" = none) (hts : Cl X es ts) (h : E G X Wx e g) (hz : ts.length ≤ sizeLine := by decide)
    (hg : Gl X "isinstance" := by rfl) (he : starEach [e, .Tuple es k0 pt] X.env = (false, eval e X.env) :: starEach [.Tuple es k0 pt] X.env := by rfl)
    (he2 : starEach [.Tuple es k0 pt] X.env = (false, eval (.Tuple es k0 pt) X.env) :: starEach [] X.env := by rfl) (hpl : (backTo pos (starEach [.Tuple es k0 pt] X.env)).any (·.1) = false := by rfl) :
    E G X Wx (.Call (.Name "isinstance" p) [e, .Tuple es k0 pt] [] pos) (fun ρ => bnd (g ρ) fun d => ret (.bl (isA ts d))) :=
  weakE (pe_callB call_isiT hg hm PyProof.Rows.boot_isinstance (two_a h (pe_tup hts) he he2) (by decide) (by decide) he hpl) fun σ H Q ⟨c, ρ, n, P, PX, I, q, hg, hx⟩ => tE.bnd I q hx fun d k u S' H' p g I' hx' r => by
    refine ⟨by rw [List.length_map]; exact hz, fun a ha => ?_⟩
    obtain ⟨I2, g2⟩ := I'.laid (o := .tup (ts.map fun t => .ty t.nm)) ha
    obtain ⟨_, h1, h2⟩ := (Rep.grow g2 _ _ r).tyX
    refine ⟨u, a, ts.map fun t => .ty t.nm, _, ts.map fun t => .type t.nm, isA ts d, rfl, upd_same, ?_, h1, kit_A h2 ts, hg (.bl (isA ts d)) k _ _ _ p (g.trans g2) I2 rfl⟩
    exact cls_all ts

/-! ### one argument -/
theorem e_b1 {x : Str} {p pos : Pos} {id : String} {e : Expr} {r : V → Hp → VK → Prop} {r' : List V → Hp → VK → Prop} {g : Env → W D} {f : D → W D} (hm : X.mg x = none) (hv : bootBuiltins x = some (.builtin id)) (o : CallR X (.builtin id) r') (v : V1 G X Wx f r) (hr : ∀ x H Q, r x H Q → r' [x] H Q) (h : E G X Wx e g)
    (hg : Gl X x) (hn : x ≠ "__name__") (hdb : (x == ("__debug__" : Str)) = false) (he : starEach [e] X.env = (false, eval e X.env) :: starEach [] X.env) (hpl : (backTo pos (starEach [] X.env)).any (·.1) = false) : E G X Wx (.Call (.Name x p) [e] [] pos) (fun ρ => bnd (g ρ) f) :=
  e_callB hm hv o (va_one v hr) (a_cons h a_nil he) hg hn hdb he hpl
theorem e_t1 {x : Str} {p pos : Pos} {T : String} {e : Expr} {r : V → Hp → VK → Prop} {r' : List V → Hp → VK → Prop} {g : Env → W D} {f : D → W D} (hm : X.mg x = none) (hv : bootBuiltins x = some (.type T)) (o : CallR X (.type T) r') (v : V1 G X Wx f r) (hr : ∀ x H Q, r x H Q → r' [x] H Q) (h : E G X Wx e g)
    (hg : Gl X x) (hn : x ≠ "__name__") (hdb : (x == ("__debug__" : Str)) = false) (he : starEach [e] X.env = (false, eval e X.env) :: starEach [] X.env) (hpl : (backTo pos (starEach [] X.env)).any (·.1) = false) : E G X Wx (.Call (.Name x p) [e] [] pos) (fun ρ => bnd (g ρ) f) :=
  e_callT hm hv o (va_one v hr) (a_cons h a_nil he) hg hn hdb he hpl
theorem e_len' {p pos : Pos} {e : Expr} {g : Env → W D} (hm : X.mg "len" = none) (h : E G X Wx e g) (hg : Gl X "len" := by rfl) (he : starEach [e] X.env = (false, eval e X.env) :: starEach [] X.env := by rfl) :
    E G X Wx (.Call (.Name "len" p) [e] [] pos) (fun ρ => bnd (g ρ) lenD) := e_len hm h hg he
def tupD : D → W D
  | .lst xs => ret (.tup xs)
  | .tup xs => ret (.tup xs)
  | _ => stuck
/-- tuple(e) -/
theorem e_tuple {p pos : Pos} {e : Expr} {g : Env → W D} (hm : X.mg "tuple" = none) (h : E G X Wx e g) (hg : Gl X "tuple" := by rfl) (he : starEach [e] X.env = (false, eval e X.env) :: starEach [] X.env := by rfl) :
    E G X Wx (.Call (.Name "tuple" p) [e] [] pos) (fun ρ => bnd (g ρ) tupD) :=
  e_t1 hm PyProof.Rows.boot_tuple call_tupleZ (r := fun x H Q => ∃ p ys, x = .ref p ∧ ((SqL X.K H p ys ∧ NewT H ys Q) ∨ (SqT X.K H p ys ∧ Q (.ref p) H))) (by
    intro c σ ρ H n P PX d v Q I r q hg hx
    cases d with
    | lst xs => obtain ⟨a, vs, rfl, r1, z, q1⟩ := r; exact ⟨a, vs, rfl, .inl ⟨r1.sq, fun l o hl hd => hg.new q I hl fun g2 => ⟨l, vs, rfl, .inl ⟨.inr rfl, o, upd_same, hd⟩, z, Reps.grow g2 _ _ q1⟩⟩⟩
    | tup xs => obtain ⟨a, vs, rfl, r1, z, q1⟩ := id r; exact ⟨a, vs, rfl, .inr ⟨r1.sq, hg.at q I r⟩⟩
    | _ => exact q.elim) (fun x H Q ⟨p, ys, e, h⟩ => ⟨p, ys, by rw [e], h⟩) h hg (by decide) (by decide) he (by rfl)
def intD : D → W D
  | .int i => ret (.int i)
  | .bl b => ret (.int (if b then 1 else 0))
  | _ => stuck
theorem e_toint {p pos : Pos} {e : Expr} {g : Env → W D} (hm : X.mg "int" = none) (h : E G X Wx e g) (hg : Gl X "int" := by rfl) (he : starEach [e] X.env = (false, eval e X.env) :: starEach [] X.env := by rfl) :
    E G X Wx (.Call (.Name "int" p) [e] [] pos) (fun ρ => bnd (g ρ) intD) :=
  e_t1 hm PyProof.Rows.boot_int call_int1 (r := fun x H Q => (∃ i, x = .int i ∧ Q (.int i) H) ∨ ∃ k, x = .bl k ∧ Q (.int (if k then 1 else 0)) H) (by
    intro c σ ρ H n P PX d v Q I r q hg hx
    cases d with
    | int i => cases r; exact .inl ⟨i, rfl, hg.at (d := .int i) q I rfl⟩
    | bl b => cases r; exact .inr ⟨b, rfl, hg.at (d := .int (if b then 1 else 0)) q I rfl⟩
    | _ => exact q.elim) (fun x H Q h => h.elim (fun ⟨i, e, h⟩ => .inl ⟨i, by rw [e], h⟩) fun ⟨i, e, h⟩ => .inr ⟨i, by rw [e], h⟩) h hg (by decide) (by decide) he (by rfl)
def absD : D → W D
  | .int i => ret (.int (if i < 0 then -i else i))
  | _ => stuck
theorem e_abs {p pos : Pos} {e : Expr} {g : Env → W D} (hm : X.mg "abs" = none) (h : E G X Wx e g) (hg : Gl X "abs" := by rfl) (he : starEach [e] X.env = (false, eval e X.env) :: starEach [] X.env := by rfl) :
    E G X Wx (.Call (.Name "abs" p) [e] [] pos) (fun ρ => bnd (g ρ) absD) :=
  e_b1 hm PyProof.Rows.boot_abs call_abs (r := fun x H Q => ∃ i, x = .int i ∧ Q (.int (if i < 0 then -i else i)) H) (by
    intro c σ ρ H n P PX d v Q I r q hg hx
    cases d with
    | int i => cases r; exact ⟨i, rfl, hg.at (d := .int (if i < 0 then -i else i)) q I rfl⟩
    | _ => exact q.elim) (fun x H Q ⟨i, e, h⟩ => ⟨i, by rw [e], h⟩) h hg (by decide) (by decide) he (by rfl)
def bls : List D → Option (List Bool)
  | [] => some []
  | .bl b :: xs => (bls xs).map (b :: ·)
  | _ :: _ => none
theorem bls_vals {K : PySem.W.Frag} {S : Addr → Prop} {H : Hp} : ∀ {xs : List D} {bs : List Bool} {vs : List V}, bls xs = some bs → Reps K S H xs vs → vs = bs.map V.bl
  | [], bs, vs, h, r => by
    cases h
    exact r
  | x :: xs, bs, vs, h, r => by
    obtain ⟨v, ws, rfl, r1, r2⟩ := r
    cases x with
    | bl b =>
      obtain ⟨cs, e1, e2⟩ := Option.map_eq_some_iff.mp h
      cases e2
      cases r1
      rw [bls_vals e1 r2]
      rfl
    | _ => cases h
def allD : D → W D
  | .lst xs => match bls xs with
    | some bs => ret (.bl (bs.all id))
    | none => stuck
  | _ => stuck
theorem e_all {p pos : Pos} {e : Expr} {g : Env → W D} (hc : X.calm = true) (hm : X.mg "all" = none) (h : E G X Wx e g) (hg : Gl X "all" := by rfl) (he : starEach [e] X.env = (false, eval e X.env) :: starEach [] X.env := by rfl) :
    E G X Wx (.Call (.Name "all" p) [e] [] pos) (fun ρ => bnd (g ρ) allD) :=
  e_b1 hm PyProof.Rows.boot_all (cr_all hc) (r := fun x H Q => ∃ a bs, x = V.ref a ∧ SqL X.K H a (bs.map V.bl) ∧ Q (.bl (bs.all id)) H) (by
    intro c σ ρ H n P PX d v Q I r q hg hx
    cases d with
    | lst xs =>
      obtain ⟨a, vs, rfl, r1, z, q1⟩ := r
      have q : (match bls xs with | some bs => ret (.bl (bs.all id)) | none => stuck : W D) n P PX := q
      cases e : bls xs with
      | none => rw [e] at q; exact q.elim
      | some bs =>
        rw [e] at q
        have e2 := bls_vals e q1
        rw [e2] at r1
        exact ⟨a, bs, rfl, r1.sq, hg.at (d := .bl (bs.all id)) q I rfl⟩
    | _ => exact q.elim) (fun x H Q ⟨a, bs, e, h⟩ => ⟨a, bs, by rw [e], h⟩) h hg (by decide) (by decide) he (by rfl)
/-! ### in -/
def inFlat (neg : Bool) (x y : D) : W D := match y with
  | .lst ys => grd (x.sc = true ∧ ys.all D.sc = true) (ret (.bl (if neg then !(ys.any fun z => scEq z x) else ys.any fun z => scEq z x)))
  | .tup ys => grd (x.sc = true ∧ ys.all D.sc = true) (ret (.bl (if neg then !(ys.any fun z => scEq z x) else ys.any fun z => scEq z x)))
  | _ => stuck
theorem Rep.flat {K : PySem.W.Frag} {S : Addr → Prop} {H : Hp} {d : D} {v : V} (r : Rep K S H d v) (h : d.sc = true) : flatV v = true := by
  cases d with
  | non => cases r; rfl
  | bl _ => cases r; rfl
  | int _ => cases r; rfl
  | str _ => obtain ⟨rfl, _⟩ := r; rfl
  | _ => cases h
theorem Rep.eqs {K : PySem.W.Frag} {S : Addr → Prop} {H : Hp} {d e : D} {v w : V} (r : Rep K S H d v) (q : Rep K S H e w) (h : d.sc = true) (h2 : e.sc = true) : eqV v w = scEq d e := by
  cases d with
  | non => cases r; cases e with
    | non => cases q; rfl
    | bl _ => cases q; rfl
    | int _ => cases q; rfl
    | str _ => obtain ⟨rfl, _⟩ := q; rfl
    | _ => cases h2
  | bl _ => cases r; cases e with
    | non => cases q; rfl
    | bl _ => cases q; rfl
    | int _ => cases q; rfl
    | str _ => obtain ⟨rfl, _⟩ := q; rfl
    | _ => cases h2
  | int _ => cases r; cases e with
    | non => cases q; rfl
    | bl _ => cases q; rfl
    | int _ => cases q; rfl
    | str _ => obtain ⟨rfl, _⟩ := q; rfl
    | _ => cases h2
  | str _ => obtain ⟨rfl, _⟩ := r; cases e with
    | non => cases q; rfl
    | bl _ => cases q; rfl
    | int _ => cases q; rfl
    | str _ => obtain ⟨rfl, _⟩ := q; rfl
    | _ => cases h2
  | _ => cases h
theorem Reps.flat {K : PySem.W.Frag} {S : Addr → Prop} {H : Hp} {x : D} {v : V} (rx : Rep K S H x v) (hx : x.sc = true) : ∀ {ys : List D} {vs : List V}, Reps K S H ys vs → ys.all D.sc = true → vs.all flatV = true ∧ inV v vs = ys.any fun z => scEq z x
  | [], _, h, _ => by
    have e : _ = [] := h
    rw [e]
    exact ⟨rfl, rfl⟩
  | y :: ys, _, h, hs => by
    obtain ⟨w, ws, rfl, r1, r2⟩ := h
    rw [List.all_cons, Bool.and_eq_true] at hs
    obtain ⟨h1, h2⟩ := Reps.flat rx hx r2 hs.2
    refine ⟨by rw [List.all_cons, r1.flat hs.1, h1]; rfl, ?_⟩
    unfold inV at *
    rw [List.any_cons, List.any_cons, r1.eqs rx hs.1 hx, h2]
theorem v2_in (neg : Bool) : V2 G X Wx (inFlat neg) (rIn X.K neg) := by
  intro c σ ρ H n P PX d e v w Q I rd re q hg hx
  cases e with
  | lst ys =>
    obtain ⟨a, vs, rfl, r1, z, q1⟩ := re
    obtain ⟨⟨h1, h2⟩, q⟩ := q
    obtain ⟨h3, h4⟩ := Reps.flat rd h1 q1 h2
    exact ⟨a, vs, rfl, .inl r1.sq, rd.flat h1, h3, by rw [h4]; exact hg.at (d := .bl _) q I rfl⟩
  | tup ys =>
    obtain ⟨a, vs, rfl, r1, z, q1⟩ := re
    obtain ⟨⟨h1, h2⟩, q⟩ := q
    obtain ⟨h3, h4⟩ := Reps.flat rd h1 q1 h2
    exact ⟨a, vs, rfl, .inr r1.sq, rd.flat h1, h3, by rw [h4]; exact hg.at (d := .bl _) q I rfl⟩
  | _ => exact q.elim
theorem cm_in : Cm G X Wx .In (inFlat false) := ⟨_, op_in_seq, v2_in false⟩
theorem cm_notin : Cm G X Wx .NotIn (inFlat true) := ⟨_, op_notIn_seq, v2_in true⟩
/-- one sign in a text -/
def inStr (neg : Bool) (x y : D) : W D := match x, y with
  | .str a, .str b => match a.cps.toList with
    | [k] => ret (.bl (if neg then !decide (k ∈ b.cps.toList) else decide (k ∈ b.cps.toList)))
    | _ => stuck
  | _, _ => stuck
theorem one_sign {a : Str} {k : Nat} (h : a.cps.toList = [k]) : a = ⟨#[k]⟩ := by
  cases a with
  | mk c =>
    have : c = #[k] := by
      apply Array.toList_inj.mp
      exact h
    rw [this]
theorem inStr_inv {neg : Bool} {x y : D} {n : Nt} {P : D → Nt → Prop} {PX : Exc → Nt → Prop} (h : inStr neg x y n P PX) : ∃ k b, x = .str ⟨#[k]⟩ ∧ y = .str b ∧ P (.bl (if neg then !decide (k ∈ b.cps.toList) else decide (k ∈ b.cps.toList))) n := by
  cases x with
  | str a =>
    cases y with
    | str b =>
      have h : (match a.cps.toList with | [k] => ret (.bl (if neg then !decide (k ∈ b.cps.toList) else decide (k ∈ b.cps.toList))) | _ => stuck : W D) n P PX := h
      generalize e : a.cps.toList = l at h
      match l, h with
      | [k], h => exact ⟨k, b, by rw [one_sign e], rfl, h⟩
      | [], h => exact h.elim
      | _ :: _ :: _, h => exact h.elim
    | _ => exact h.elim
  | _ => exact h.elim
theorem cm_inS : Cm G X Wx .In (inStr false) := ⟨_, op_in_sign, by
  intro c σ ρ H n P PX d e v w Q I rd re q hg hx
  obtain ⟨k, b, rfl, rfl, q⟩ := inStr_inv q
  obtain ⟨rfl, _⟩ := rd
  obtain ⟨rfl, _⟩ := re
  exact ⟨k, b, rfl, rfl, hg.at (d := .bl _) q I rfl⟩⟩
theorem cm_notinS : Cm G X Wx .NotIn (inStr true) := ⟨_, op_notIn_sign, by
  intro c σ ρ H n P PX d e v w Q I rd re q hg hx
  obtain ⟨k, b, rfl, rfl, q⟩ := inStr_inv q
  obtain ⟨rfl, _⟩ := rd
  obtain ⟨rfl, _⟩ := re
  exact ⟨k, b, rfl, rfl, hg.at (d := .bl _) q I rfl⟩⟩
/-! ### join -/
def txts : List D → Option (List Str)
  | [] => some []
  | .str b :: xs => (txts xs).map (b :: ·)
  | _ :: _ => none
theorem txts_vals {K : PySem.W.Frag} {S : Addr → Prop} {H : Hp} : ∀ {xs : List D} {bs : List Str} {vs : List V}, txts xs = some bs → Reps K S H xs vs → vs = bs.map V.str
  | [], bs, vs, h, r => by
    cases h
    exact r
  | x :: xs, bs, vs, h, r => by
    obtain ⟨v, ws, rfl, r1, r2⟩ := r
    cases x with
    | str b =>
      obtain ⟨cs, e1, e2⟩ := Option.map_eq_some_iff.mp h
      cases e2
      obtain ⟨rfl, _⟩ := r1
      rw [txts_vals e1 r2]
      rfl
    | _ => cases h
def joinW (a : Str) (xs : List D) : W D := match txts xs with
  | some ys => grd ((ys.map (·.length)).sum + ys.length * a.length ≤ 16777216 ∧ (Txt.join a ys).length ≤ sizeLine) (ret (.str (Txt.join a ys)))
  | none => stuck
def joinD (x y : D) : W D := match x, y with
  | .str a, .lst xs => joinW a xs
  | .str a, .tup xs => joinW a xs
  | _, _ => stuck
def onStr {α : Type} (x : D) (m : W α) : W α := match x with
  | .str _ => m
  | _ => stuck
theorem e_join {o e : Expr} {apos pos : Pos} {go ge : Env → W D} (ho : E G X Wx o go) (he : E G X Wx e ge) (hs : starEach [e] X.env = [(false, eval e X.env)] := by rfl) (hbase : attributeBase o "join" X.env (eval o X.env) = eval o X.env := by rfl) (hline : (apos.endLine == pos.line) = true := by rfl) :
    E G X Wx (.Call (.Attribute o "join" apos) [e] [] pos) (fun ρ => bnd (go ρ) fun x => onStr x (bnd (ge ρ) fun y => joinD x y)) :=
  weakE (pe_join ho he hs hbase hline) fun σ H Q ⟨c, ρ, n, P, PX, I, q, hg, hx⟩ => tE.bnd I q hx fun d k u S' H' p g I' hx' r => by
    cases d with
    | str a =>
      obtain ⟨rfl, hz⟩ := r
      refine ⟨⟨a, rfl⟩, tE.bnd I' p hx' fun d2 k2 u2 S2 H2 p2 g2 I2 hx2 r2 => ?_⟩
      have fin : ∀ xs vs b, joinW a xs k2 P PX → Reps X.K S2 H2 xs vs → (SqL X.K H2 b vs ∨ SqT X.K H2 b vs) → ∃ a_1 p, ∃ ys : List Str, V.str a = .str a_1 ∧ [V.ref b] = [.ref p] ∧ (SqL X.K H2 p (ys.map V.str) ∨ SqT X.K H2 p (ys.map V.str)) ∧
          (ys.map (·.length)).sum + ys.length * a_1.length ≤ 16777216 ∧ Q (.str (Txt.join a_1 ys)) H2 := fun xs vs b h1 h2 h3 => by
        unfold joinW at h1
        cases e : txts xs with
        | none => rw [e] at h1; exact h1.elim
        | some ys =>
          rw [e] at h1
          have e2 := txts_vals e h2
          rw [e2] at h3
          exact ⟨a, b, ys, rfl, rfl, h3, h1.1.1, (hg.grow (g.trans g2)).at (d := .str (Txt.join a ys)) h1.2 I2 ⟨rfl, h1.1.2⟩⟩
      cases d2 with
      | lst xs => obtain ⟨b, vs, rfl, r1, _, q1⟩ := r2; exact fin xs vs b p2 q1 (.inl r1.sq)
      | tup xs => obtain ⟨b, vs, rfl, r1, _, q1⟩ := r2; exact fin xs vs b p2 q1 (.inr r1.sq)
      | _ => exact p2.elim
    | _ => exact p.elim
end
end PL

/-! The layer: repr, dicts among the data too. -/
namespace PL
open PySem PySem.Spec L2

/-- data off the heap, no dict among it sys.modules -/
inductive RX (h : Heap) : Value → PyData → Prop where
  | none : RX h .none .none
  | bool (b : Bool) : RX h (.bool b) (.bool b)
  | int (i : Int) (t : Tok) : RX h (.int i t) (.int i)
  | str (x : Str) (t : Tok) : RX h (.str x t) (.str x)
  | list {a : Addr} {o : Obj} {vs : Array Value} {n : Nat} {xs : List PyData} : h.get? a = some o → o.cls = .type "list" → o.data = .seq vs n → Paired (RX h) vs.toList xs → RX h (.ref a) (.list xs)
  | tuple {a : Addr} {o : Obj} {vs : Array Value} {n : Nat} {xs : List PyData} : h.get? a = some o → o.cls = .type "tuple" → o.data = .seq vs n → Paired (RX h) vs.toList xs → RX h (.ref a) (.tuple xs)
  | dict {a : Addr} {o : Obj} {es : Array DictEntry} {n : Nat} {kvs : List (PyData × PyData)} : h.get? a = some o → o.cls = .type "dict" → o.data = .dict es n → (a == sysModules) = false →
      Paired (RX h) (es.toList.map (·.key)) (kvs.map (·.1)) → Paired (RX h) (es.toList.map (·.val)) (kvs.map (·.2)) → RX h (.ref a) (.dict kvs)

section
variable {h : Heap} {P : Program} {w : World}
mutual
theorem RX.reads : ∀ (d : PyData) {v : Value}, RX h v d → ∃ as, Reads h v d as
  | .none, _, .none => ⟨_, .none⟩
  | .bool _, _, .bool b => ⟨_, .bool b⟩
  | .int _, _, .int i t => ⟨_, .int i t⟩
  | .str _, _, .str x t => ⟨_, .str x t⟩
  | .list xs, _, .list h1 h2 h3 h4 => let ⟨_, q⟩ := RX.readsAll xs h4; ⟨_, .list h1 h2 h3 q⟩
  | .tuple xs, _, .tuple h1 h2 h3 h4 => let ⟨_, q⟩ := RX.readsAll xs h4; ⟨_, .tuple h1 h2 h3 q⟩
  | .dict kvs, _, .dict h1 h2 h3 _ h5 h6 => let ⟨⟨_, q⟩, ⟨_, q2⟩⟩ := RX.readsKv kvs h5 h6; ⟨_, .dict h1 h2 h3 q q2⟩
theorem RX.readsAll : ∀ (ds : List PyData) {vs : List Value}, Paired (RX h) vs ds → ∃ as, ReadsAll h vs ds as
  | [], _, .nil => ⟨_, .nil⟩
  | d :: ds, _, .cons r t => let ⟨_, q⟩ := RX.reads d r; let ⟨_, q2⟩ := RX.readsAll ds t; ⟨_, .cons q q2⟩
theorem RX.readsKv : ∀ (ds : List (PyData × PyData)) {vs us : List Value}, Paired (RX h) vs (ds.map (·.1)) → Paired (RX h) us (ds.map (·.2)) → (∃ as, ReadsAll h vs (ds.map (·.1)) as) ∧ ∃ as, ReadsAll h us (ds.map (·.2)) as
  | [], _, _, .nil, .nil => ⟨⟨_, .nil⟩, _, .nil⟩
  | (a, b) :: ds, _, _, .cons r t, .cons r' t' =>
    let ⟨_, q⟩ := RX.reads a r
    let ⟨_, q'⟩ := RX.reads b r'
    let ⟨⟨_, q2⟩, ⟨_, q3⟩⟩ := RX.readsKv ds t t'
    ⟨⟨_, .cons q q2⟩, _, .cons q' q3⟩
end
/-- the text's length stays within the line -/
def Fit (d : PyData) : Prop := d.showable = true ∧ d.shown.length ≤ sizeLine
theorem Fit.list {xs : List PyData} (f : Fit (.list xs)) : ∀ x ∈ xs, Fit x := by
  obtain ⟨h1, h2⟩ := f
  have e : (listText (PyData.shownAll xs)).length ≤ sizeLine := by simpa only [PyData.shown] using h2
  have a1 : PyData.showableAll xs = true := by simpa [PyData.showable] using h1
  clear h1 h2
  have key : ∀ t ∈ PyData.shownAll xs, t.length ≤ sizeLine := fun t ht => Nat.le_trans (listText_mem_le ht) e
  clear e
  induction xs with
  | nil => exact fun x hx => nomatch hx
  | cons y ys ih =>
    rw [PyData.showableAll, Bool.and_eq_true] at a1
    intro x hx
    rcases List.mem_cons.mp hx with rfl | hx
    · exact ⟨a1.1, key _ (by rw [PyData.shownAll]; exact List.mem_cons_self)⟩
    · exact ih a1.2 (fun t ht => key t (by rw [PyData.shownAll]; exact List.mem_cons_of_mem _ ht)) x hx
theorem Fit.tuple {xs : List PyData} (f : Fit (.tuple xs)) : ∀ x ∈ xs, Fit x := by
  obtain ⟨h1, h2⟩ := f
  have e : (tupleText (PyData.shownAll xs)).length ≤ sizeLine := by simpa only [PyData.shown] using h2
  have a1 : PyData.showableAll xs = true := by simpa [PyData.showable] using h1
  clear h1 h2
  have key : ∀ t ∈ PyData.shownAll xs, t.length ≤ sizeLine := fun t ht => Nat.le_trans (tupleText_mem_le ht) e
  clear e
  induction xs with
  | nil => exact fun x hx => nomatch hx
  | cons y ys ih =>
    rw [PyData.showableAll, Bool.and_eq_true] at a1
    intro x hx
    rcases List.mem_cons.mp hx with rfl | hx
    · exact ⟨a1.1, key _ (by rw [PyData.shownAll]; exact List.mem_cons_self)⟩
    · exact ih a1.2 (fun t ht => key t (by rw [PyData.shownAll]; exact List.mem_cons_of_mem _ ht)) x hx
theorem Fit.dict {kvs : List (PyData × PyData)} (f : Fit (.dict kvs)) : (∀ x ∈ kvs, Fit x.1 ∧ Fit x.2) := by
  obtain ⟨h1, h2⟩ := f
  have e : (dictText (PyData.shownKv kvs)).length ≤ sizeLine := by simpa only [PyData.shown] using h2
  have a1 : PyData.showableKv kvs = true := by simpa [PyData.showable] using h1
  clear h1 h2
  have key : ∀ t ∈ PyData.shownKv kvs, t.length ≤ sizeLine := fun t ht => Nat.le_trans (dictText_mem_le ht) e
  clear e
  induction kvs with
  | nil => exact fun x hx => nomatch hx
  | cons y ys ih =>
    obtain ⟨a, b⟩ := y
    rw [PyData.showableKv, Bool.and_eq_true, Bool.and_eq_true] at a1
    intro x hx
    rcases List.mem_cons.mp hx with rfl | hx
    · have := key _ (by rw [PyData.shownKv]; exact List.mem_cons_self)
      rw [PySem.Str.length_append, PySem.Str.length_append] at this
      exact ⟨⟨a1.1.1, by show a.shown.length ≤ sizeLine; omega⟩, ⟨a1.1.2, by show b.shown.length ≤ sizeLine; omega⟩⟩
    · exact ih a1.2 (fun t ht => key t (by rw [PyData.shownKv]; exact List.mem_cons_of_mem _ ht)) x hx

mutual
theorem RX.shows : ∀ (d : PyData) {v : Value}, RX h v d → Fit d → ∃ bs, ReadAtMost h d.depth bs ∧ ReprK P w bs h d.depth v d.shown
  | .none, _, .none, _ => ⟨[], fun _ q => (nomatch q), by rw [PyData.shown]; exact .of_is ReprIs.none _ _ _⟩
  | .bool _, _, .bool b, _ => ⟨[], fun _ q => (nomatch q), by rw [PyData.shown]; exact .of_is (ReprIs.bool b) _ _ _⟩
  | .int _, _, .int i t, f => ⟨[], fun _ q => (nomatch q), by rw [PyData.shown]; exact .of_is (ReprIs.int t (by simpa [PyData.showable] using f.1)) _ _ _⟩
  | .str _, _, .str x t, f => ⟨[], fun _ q => (nomatch q), by rw [PyData.shown]; exact .of_is (ReprIs.str x t (by simpa only [PyData.shown] using f.2)) _ _ _⟩
  | .list xs, _, .list (a := a) (vs := vs) h1 h2 h3 h4, f => by
    obtain ⟨bs, hb, hk⟩ := RX.showsAll xs h4 f.list
    obtain ⟨as, r⟩ := RX.reads (.list xs) (.list h1 h2 h3 h4)
    have hn : a ∉ bs := not_mem_of_deeper r (by rw [PyData.depth]; omega) hb
    refine ⟨a :: bs, .cons r (by rw [PyData.depth]; omega) hb, ?_⟩
    rw [PyData.depth, PyData.shown]
    obtain ⟨l⟩ := vs
    cases l with
    | nil =>
      have h4 : Paired (RX h) [] xs := h4
      cases h4
      rw [PyData.shownAll, listText_nil]
      exact .listEmpty h1 h2 h3
    | cons y l => exact .list h1 h2 h3 hn (by simpa using hk.length_eq) fun i z e => hk.item i z (by simpa using e)
  | .tuple xs, _, .tuple (a := a) (vs := vs) h1 h2 h3 h4, f => by
    obtain ⟨bs, hb, hk⟩ := RX.showsAll xs h4 f.tuple
    obtain ⟨as, r⟩ := RX.reads (.tuple xs) (.tuple h1 h2 h3 h4)
    refine ⟨a :: bs, .cons r (by rw [PyData.depth]; omega) hb, ?_⟩
    rw [PyData.depth, PyData.shown]
    exact .tuple h1 h2 h3 (not_mem_of_deeper r (by rw [PyData.depth]; omega) hb) hk
  | .dict kvs, _, .dict (a := a) (es := es) h1 h2 h3 h4 h5 h6, f => by
    obtain ⟨b1, b2, hb1, k1, hb2, k2⟩ := RX.showsKv kvs h5 h6 f.dict
    obtain ⟨as, r⟩ := RX.reads (.dict kvs) (.dict h1 h2 h3 h4 h5 h6)
    have hb : ReadAtMost h (PyData.depthKv kvs) (b1 ++ b2) := .append hb1 hb2
    refine ⟨a :: (b1 ++ b2), .cons r (by rw [PyData.depth]; omega) hb, ?_⟩
    rw [PyData.depth, PyData.shown, PyData.shownKv_eq]
    exact .dict h1 h2 h3 h4 (not_mem_of_deeper r (by rw [PyData.depth]; omega) hb) (.of_two es.toList _ _ (k1.more_le (fun b q => List.mem_append_left _ q) (Nat.le_refl _)) (k2.more_le (fun b q => List.mem_append_right _ q) (Nat.le_refl _)))
theorem RX.showsAll : ∀ (ds : List PyData) {vs : List Value}, Paired (RX h) vs ds → (∀ d ∈ ds, Fit d) → ∃ bs, ReadAtMost h (PyData.depthAll ds) bs ∧ ReprAllK P w bs h (PyData.depthAll ds) vs (PyData.shownAll ds)
  | [], _, .nil, _ => ⟨[], fun _ q => (nomatch q), .nil⟩
  | d :: ds, _, .cons r t, f => by
    obtain ⟨b1, h1, k1⟩ := RX.shows d r (f d List.mem_cons_self)
    obtain ⟨b2, h2, k2⟩ := RX.showsAll ds t fun x q => f x (List.mem_cons_of_mem _ q)
    refine ⟨b1 ++ b2, ?_, ?_⟩
    · rw [PyData.depthAll]; exact .append (h1.mono (Nat.le_max_left _ _)) (h2.mono (Nat.le_max_right _ _))
    · rw [PyData.depthAll, PyData.shownAll]
      exact .cons ((k1.more fun b q => List.mem_append_left _ q).level_le (Nat.le_max_left _ _)) (k2.more_le (fun b q => List.mem_append_right _ q) (Nat.le_max_right _ _))
theorem RX.showsKv : ∀ (ds : List (PyData × PyData)) {vs us : List Value}, Paired (RX h) vs (ds.map (·.1)) → Paired (RX h) us (ds.map (·.2)) → (∀ d ∈ ds, Fit d.1 ∧ Fit d.2) →
    ∃ b1 b2, ReadAtMost h (PyData.depthKv ds) b1 ∧ ReprAllK P w b1 h (PyData.depthKv ds) vs (PyData.shownAll (ds.map (·.1))) ∧ ReadAtMost h (PyData.depthKv ds) b2 ∧ ReprAllK P w b2 h (PyData.depthKv ds) us (PyData.shownAll (ds.map (·.2)))
  | [], _, _, .nil, .nil, _ => ⟨[], [], fun _ q => (nomatch q), .nil, fun _ q => (nomatch q), .nil⟩
  | (x, y) :: ds, _, _, .cons r t, .cons r' t', f => by
    obtain ⟨a1, h1, k1⟩ := RX.shows x r (f _ List.mem_cons_self).1
    obtain ⟨a2, h2, k2⟩ := RX.shows y r' (f _ List.mem_cons_self).2
    obtain ⟨b1, b2, g1, j1, g2, j2⟩ := RX.showsKv ds t t' fun z q => f z (List.mem_cons_of_mem _ q)
    rw [PyData.depthKv, List.map_cons, List.map_cons, PyData.shownAll, PyData.shownAll]
    have m1 : PyData.depth x ≤ max (max (PyData.depth x) (PyData.depth y)) (PyData.depthKv ds) := by omega
    have m2 : PyData.depth y ≤ max (max (PyData.depth x) (PyData.depth y)) (PyData.depthKv ds) := by omega
    have m3 : PyData.depthKv ds ≤ max (max (PyData.depth x) (PyData.depth y)) (PyData.depthKv ds) := by omega
    exact ⟨a1 ++ b1, a2 ++ b2, .append (h1.mono m1) (g1.mono m3), .cons ((k1.more fun b q => List.mem_append_left _ q).level_le m1) (j1.more_le (fun b q => List.mem_append_right _ q) m3),
      .append (h2.mono m2) (g2.mono m3), .cons ((k2.more fun b q => List.mem_append_left _ q).level_le m2) (j2.more_le (fun b q => List.mem_append_right _ q) m3)⟩
end
/-- repr(x) -/
theorem RX.repr {d : PyData} {v : Value} {A : Around} {E : Value → Shared → Prop} {s : Shared} {Q : Value → Shared → Prop} (r : RX s.heap v d) (f : Fit d) (hg : A.guards = some []) (hu : A.units + (d.depth + 1) < cLine)
    (hQ : ∀ h' u tk, (∀ b o, s.heap.get? b = some o → h'.get? b = some o) → Q (.str d.shown u) { s with heap := h', toks := tk }) : wpAny (model P w) A (call (.builtin "repr") [v]) Q E s := by
  cases r with
  | none => exact PySem.P.repr_of_none (by have := hQ s.heap s.toks (s.toks + 1) (fun _ _ e => e); rwa [PyData.shown] at this)
  | bool b => exact PySem.P.repr_of_bool (by have := hQ s.heap s.toks (s.toks + 1) (fun _ _ e => e); rw [PyData.shown] at this; cases b <;> exact this)
  | int i t => exact PySem.P.repr_of_int (by simpa [PyData.showable] using f.1) (by have := hQ s.heap s.toks (s.toks + 1) (fun _ _ e => e); rwa [PyData.shown] at this)
  | str x t => exact PySem.P.repr_of_str (by have := hQ s.heap s.toks (s.toks + 1) (fun _ _ e => e); rwa [PyData.shown] at this) (by simpa only [PyData.shown] using f.2)
  | @list a o vs n xs h1 h2 h3 h4 =>
    obtain ⟨bs, hb, hk⟩ := RX.showsAll (P := P) (w := w) xs h4 f.list
    obtain ⟨as, r⟩ := RX.reads (.list xs) (.list h1 h2 h3 h4)
    have hn : a ∉ bs := not_mem_of_deeper r (by rw [PyData.depth]; omega) hb
    have hz : (listText (PyData.shownAll xs)).length ≤ sizeLine := by simpa only [PyData.shown] using f.2
    rw [PyData.depth] at hu
    rw [PyData.shown] at hQ
    refine call_repr_slot (by omega) (T := "list") ⟨o, h1, h2⟩ F.slot_list_repr.toG ?_
    obtain ⟨l⟩ := vs
    cases l with
    | nil =>
      have h4 : Paired (RX s.heap) [] xs := h4
      cases h4
      rw [PyData.shownAll, listText_nil] at hQ
      exact call_list_repr_empty ⟨o, h1, h2⟩ h1 h3 ⟨_, _, rfl, hQ s.heap _ _ fun _ _ e => e⟩
    | cons y l => exact call_list_reprK h1 h2 h3 hn (by simpa using hk.length_eq) (fun i z e => hk.item i z (by simpa using e)) hg (fun b _ => Clear.nil b) (by show A.units + 1 + _ < cLine; omega) (fun _ _ e => e) (fun h' u tk q => ⟨_, _, rfl, hQ h' u tk q⟩) hz
  | @tuple a o vs n xs h1 h2 h3 h4 =>
    obtain ⟨bs, hb, hk⟩ := RX.showsAll (P := P) (w := w) xs h4 f.tuple
    obtain ⟨as, r⟩ := RX.reads (.tuple xs) (.tuple h1 h2 h3 h4)
    have hn : a ∉ bs := not_mem_of_deeper r (by rw [PyData.depth]; omega) hb
    have hz : (tupleText (PyData.shownAll xs)).length ≤ sizeLine := by simpa only [PyData.shown] using f.2
    rw [PyData.depth] at hu
    rw [PyData.shown] at hQ
    exact call_repr_slot (by omega) (T := "tuple") ⟨o, h1, h2⟩ F.slot_tuple_repr (call_tuple_reprK h1 h2 h3 hn hk hg (fun b _ => Clear.nil b) (by show A.units + 1 + _ < cLine; omega) (fun _ _ e => e) (fun h' u tk q => ⟨_, _, rfl, hQ h' u tk q⟩) hz)
  | @dict a o es n kvs h1 h2 h3 h4 h5 h6 =>
    obtain ⟨b1, b2, hb1, k1, hb2, k2⟩ := RX.showsKv (P := P) (w := w) kvs h5 h6 f.dict
    obtain ⟨as, r⟩ := RX.reads (.dict kvs) (.dict h1 h2 h3 h4 h5 h6)
    have hb : ReadAtMost s.heap (PyData.depthKv kvs) (b1 ++ b2) := .append hb1 hb2
    have hz : (dictText (PyData.shownKv kvs)).length ≤ sizeLine := by simpa only [PyData.shown] using f.2
    rw [PyData.depth] at hu
    rw [PyData.shown, PyData.shownKv_eq] at hQ
    exact call_repr_slot (by omega) (T := "dict") ⟨o, h1, h2⟩ F.slot_dict_repr (call_dict_reprK h1 h2 h3 h4 (not_mem_of_deeper r (by rw [PyData.depth]; omega) hb)
      (.of_two es.toList _ _ (k1.more_le (fun b q => List.mem_append_left _ q) (Nat.le_refl _)) (k2.more_le (fun b q => List.mem_append_right _ q) (Nat.le_refl _))) hg (fun b _ => Clear.nil b) (by show A.units + 1 + _ < cLine; omega) (fun _ _ e => e) (fun h' u tk q => ⟨_, _, rfl, hQ h' u tk q⟩) (by rw [← PyData.shownKv_eq]; exact hz))
end

section
variable {X : Cx} {pins : List (Addr × Obj)} {σ : L2.St} {H : Hp} {s : Shared} {S : Addr → Prop}
theorem RX.int' {h : Heap} {v : Value} {i : Int} {t : Tok} (e : v = .int i t) : RX h v (.int i) := by rw [e]; exact .int i t
theorem RX.str' {h : Heap} {v : Value} {i : Str} {t : Tok} (e : v = .str i t) : RX h v (.str i) := by rw [e]; exact .str i t
theorem keys_rx {h : Heap} {K : PySem.W.Frag} : ∀ {kvs : List (Key × D)} {kws : List (Key × V)} {vs : List (Key × Value)} {es : List DictEntry}, RepK K S H kvs kws → L2.KV kws vs → Pairs (mixKind P w) es vs → Paired (RX h) (es.map (·.key)) ((pyk kvs).map (·.1))
  | [], _, _, _, r, k, p => by
    have e : _ = [] := r
    rw [e] at k
    cases k
    cases p
    exact .nil
  | (k, x) :: kvs, _, _, _, r, q, p => by
    obtain ⟨v, ws, rfl, _, r2⟩ := r
    cases q with
    | @cons _ b _ bs hk q =>
      cases p with
      | cons h1 h2 p =>
        have ih := keys_rx (h := h) r2 q p
        have e : k = b.1 := hk.1
        rw [← e] at h1
        rcases keyIs_shape h1 with ⟨i, t, e1, e2⟩ | ⟨y, t, e1, e2⟩
        · rw [e1]
          exact .cons (RX.int' e2) ih
        · rw [e1]
          exact .cons (RX.str' e2) ih
theorem ins_show {c f : Str} {x : D} : (py (.ins c f x)).showable = false := by
  unfold py PyData.showable PyData.showableKv PyData.showable
  have h : ¬ ((2 : Int) ^ 2000).natAbs.log2 < 1920 := by decide +kernel
  simp [h]
mutual
theorem Rep.rx (I : Inv X pins σ H s) : ∀ (d : D) (v : V) (u : Value), (py d).showable = true → Rep X.K S H d v → RelV v u → RX s.heap u (py d)
  | .non, v, u, _, r, q => by cases r; cases q; exact .none
  | .bl b, v, u, _, r, q => by cases r; cases q; exact .bool b
  | .int i, v, u, _, r, q => by cases r; obtain ⟨t, rfl⟩ := q; exact .int i t
  | .str x, v, u, _, r, q => by obtain ⟨rfl, _⟩ := r; obtain ⟨t, rfl⟩ := q; exact .str x t
  | .lst xs, v, u, hs, r, q => by
    obtain ⟨a, vs, rfl, r1, _, r2⟩ := r
    cases q
    obtain ⟨its, rv, ⟨⟨cls, dd, data, sl⟩, n, ho, hc, hdn, hdt⟩, _⟩ := I.list r1.sq
    exact .list ho hc hdt (Reps.rx I xs vs _ (by simpa [py, PyData.showable] using hs) r2 rv)
  | .tup xs, v, u, hs, r, q => by
    obtain ⟨a, vs, rfl, r1, _, r2⟩ := r
    cases q
    obtain ⟨its, rv, ⟨o, ho, hc, n, hdt⟩, _⟩ := I.tuple r1.sq
    exact .tuple ho hc hdt (Reps.rx I xs vs _ (by simpa [py, PyData.showable] using hs) r2 rv)
  | .ins c f x, v, u, hs, _, _ => absurd hs (by rw [ins_show]; exact Bool.false_ne_true)
  | .dic kvs, v, u, hsh, r, q => by
    obtain ⟨a, kws, rfl, ⟨_, r1⟩, r2⟩ := r
    cases q
    obtain ⟨_, hs, vs, kv, o, es, ep, ho, hx, hdt, _, hp, _⟩ : kws.length ≤ sizeLine ∧ (a == sysModules) = false ∧ ∃ vs, L2.KV kws vs ∧ s.heap.DictOf (mixKind X.prog X.w) a vs := dk_rd I.hok r1
    exact .dict ho hx.1 hdt hs (keys_rx r2 kv hp) (RepK.rx I kvs kws vs _ (by simpa [py, PyData.showable] using hsh) r2 kv hp)
theorem Reps.rx (I : Inv X pins σ H s) : ∀ (xs : List D) (vs : List V) (us : List Value), PyData.showableAll (pys xs) = true → Reps X.K S H xs vs → Vals vs us → Paired (RX s.heap) us (pys xs)
  | [], _, _, _, r, q => by
    have e : _ = [] := r
    rw [e] at q
    cases q
    exact .nil
  | x :: xs, _, _, hs, r, q => by
    obtain ⟨v, ws, rfl, r1, r2⟩ := r
    have hs : (py x).showable = true ∧ PyData.showableAll (pys xs) = true := by simpa [pys, PyData.showableAll] using hs
    cases q with
    | cons q1 q2 => exact .cons (Rep.rx I x v _ hs.1 r1 q1) (Reps.rx I xs ws _ hs.2 r2 q2)
theorem RepK.rx (I : Inv X pins σ H s) : ∀ (kvs : List (Key × D)) (kws : List (Key × V)) (vs : List (Key × Value)) (es : List DictEntry), PyData.showableKv (pyk kvs) = true → RepK X.K S H kvs kws → L2.KV kws vs → Pairs (mixKind X.prog X.w) es vs → Paired (RX s.heap) (es.map (·.val)) ((pyk kvs).map (·.2))
  | [], _, _, _, _, r, q, p => by
    have e : _ = [] := r
    rw [e] at q
    cases q
    cases p
    exact .nil
  | (k, x) :: kvs, _, _, _, hsh, r, q, p => by
    obtain ⟨v, ws, rfl, r1, r2⟩ := r
    have hsh2 : (py x).showable = true ∧ PyData.showableKv (pyk kvs) = true := by cases k <;> simp [pyk, PyData.showableKv] at hsh <;> exact ⟨by simp_all, by simp_all⟩
    cases q with
    | @cons _ b _ bs hk q =>
      cases p with
      | cons h1 h2 p =>
        have ih := RepK.rx I kvs ws bs _ hsh2.2 r2 q p
        have hd := Rep.rx I x v b.2 hsh2.1 r1 hk.2
        rw [← h2] at hd
        cases k with
        | inl i => exact .cons hd ih
        | inr i => exact .cons hd ih
end
end
/-- repr(e) -/
def reprD (d : D) : W D := grd ((py d).showable = true ∧ (py d).shown.length ≤ sizeLine ∧ (py d).depth ≤ 64) (ret (.str (py d).shown))
theorem e_repr {G : PenK} {X : Cx} {Wx : WX} {k : Nat} {p pos : Pos} {e : Expr} {g : Env → W D} (hm : X.mg "repr" = none) (hgd : X.A.guards = some []) (hr : Room k X.A) (h : E G X Wx e g) (hg : Gl X "repr" := by rfl) (he : starEach [e] X.env = (false, eval e X.env) :: starEach [] X.env := by rfl) (hpl : (backTo pos (starEach [] X.env)).any (·.1) = false := by rfl) :
    E G X Wx (.Call (.Name "repr" p) [e] [] pos) (fun ρ => bnd (g ρ) reprD) :=
  e_callB (r := fun vs H Q => ∃ (S : Addr → Prop) (d : D) (v : V), vs = [v] ∧ Rep X.K S H d v ∧ ((py d).showable = true ∧ (py d).shown.length ≤ sizeLine ∧ (py d).depth ≤ 64) ∧ Q (.str (py d).shown) H) hm PyProof.Rows.boot_repr
    (fun pins s σ H xs us Q I rv ⟨S, d, v, e1, r, ⟨h1, h2, h3⟩, q⟩ => by
      subst e1
      obtain ⟨u, rfl, ru⟩ := L2.vals1 rv
      exact RX.repr (Rep.rx I d v u h1 r ru) ⟨h1, h2⟩ hgd (by have := hr.un; omega) fun h' t tk hk => ⟨.str _, H, I.kept hk, ⟨t, rfl⟩, q⟩)
    (va_one (f := reprD) (r := fun v H Q => ∃ (S : Addr → Prop) (d : D), Rep X.K S H d v ∧ ((py d).showable = true ∧ (py d).shown.length ≤ sizeLine ∧ (py d).depth ≤ 64) ∧ Q (.str (py d).shown) H) (fun c σ ρ H n P PX d v Q I r ⟨h1, q⟩ hg hx => ⟨c.S, d, r, h1, hg.at (d := .str (py d).shown) q I ⟨rfl, h1.2.1⟩⟩)
      fun x H Q ⟨S, d, r, h1, q⟩ => ⟨S, d, x, rfl, r, h1, q⟩) (a_cons h a_nil he) hg (by decide) (by decide) he hpl
end PL

/-! The layer: the source of draws [cells, turn, rest], and a draw. -/
namespace PL
open PySem PySem.Spec L2

/-- the list of the cells, the turn, the rest; at most n draws so far -/
def penG : PenK where
  inv := fun H a b n => a ≠ b ∧ ∃ (cs : List Int) (t g : Int), H a = some (.lst [.ref b, .int t, .int g]) ∧ H b = some (.lst (cs.map V.int)) ∧ cs.length ≤ 63 ∧ 0 ≤ t ∧ t ≤ n ∧ 0 ≤ g
  dep := fun ⟨h0, cs, t, g, h1, h2, h3⟩ e1 e2 => ⟨h0, cs, t, g, e1.trans h1, e2.trans h2, h3⟩
  there := fun ⟨_, cs, t, g, h1, h2, _⟩ => ⟨(by rw [h1]; exact fun z => (nomatch z)), (by rw [h2]; exact fun z => (nomatch z))⟩
  isL := fun ⟨_, cs, t, g, h1, h2, _⟩ => ⟨⟨_, h1⟩, _, h2⟩
/-- .. with tables of code objects, the module's names -/
def PenK.wt (G : PenK) (T : List (Addr × Str)) (mg : Str → Option Value) : PenK := { G with tab := T, mg := mg }
def drawMax : Nat := 4000000
/-- any number below b -/
def drawB (b : Int) : W D := fun n P _ => n.n < drawMax ∧ 0 < b ∧ b < 1073741824 ∧ ∀ r k, 0 ≤ r → r < b → n.n ≤ k → k ≤ n.n + 1 → P (.int r) ⟨k, n.μ⟩
def drawM : List SV → W D
  | [.pen, .d (.int b)] => drawB b
  | _ => stuck

theorem drawM_inv {args : List SV} {n : Nt} {P : D → Nt → Prop} {PX : Exc → Nt → Prop} (h : drawM args n P PX) :
    ∃ b, args = [.pen, .d (.int b)] ∧ n.n < drawMax ∧ 0 < b ∧ b < 1073741824 ∧ ∀ r k, 0 ≤ r → r < b → n.n ≤ k → k ≤ n.n + 1 → P (.int r) ⟨k, n.μ⟩ := by
  unfold drawM at h
  split at h
  · exact ⟨_, rfl, h⟩
  · exact h.elim
theorem u64 {A : Around} {k : Nat} (r : Room k A) : A.units + 64 < cLine := by
  have := r.un
  omega
theorem rd_ix {K : PySem.W.Frag} {σ : L2.St} {H : Hp} {Q : VK} {a : Addr} {L : List V} {i : Nat} (j : Nat) {v : V} (e : σ[i]? = some (some (.ref a))) (h : H a = some (.lst L)) (hv : L[j]? = some v) (q : Q v H) : tOp (rIxL K) (tVar i) (tC (.int j)) σ H Q :=
  ⟨.ref a, e, a, L, j, v, rfl, rfl, SqL.of h, atI_nat hv, q⟩
theorem wr_ix {σ : L2.St} {H : Hp} {Q : L2.St → Hp → Prop} {a : Addr} {L : List V} {i : Nat} (j : Nat) {v : V} (e : σ[i]? = some (some (.ref a))) (h : H a = some (.lst L)) (hj : j < L.length) (q : Q σ (upd H a (.lst (L.set j v)))) : gSub (tVar i) (tC (.int j)) rSetL v σ H Q :=
  ⟨.ref a, e, a, L, j, j, rfl, rfl, h, by unfold ixN; rw [if_pos (by omega), if_pos (by omega)]; rfl, q⟩
theorem sq_le {t : Int} {n : Int} (h0 : 0 ≤ t) (h1 : t ≤ n) : t * t ≤ n * n := Int.mul_le_mul h1 h1 h0 (Int.le_trans h0 h1)
theorem eqv_nil {cs : List Int} : PyData.eqv (.list (cs.map PyData.int)) (.list []) = cs.isEmpty := by
  cases cs <;> simp [PyData.eqv, PyData.eqvAll]
theorem shaped_ints (cs : List Int) : SeqAt.shaped (.list (cs.map PyData.int)) = true := by
  have h1 : ∀ l : List Int, PyData.canLayAll0 (l.map PyData.int) = true := fun l => by
    induction l with
    | nil => simp [PyData.canLayAll0]
    | cons x l ih => simp [PyData.canLayAll0, PyData.canLay0, ih]
  have h2 : ∀ l : List Int, PyData.depthAll (l.map PyData.int) = 0 := fun l => by
    induction l with
    | nil => simp [PyData.depthAll]
    | cons x l ih => simp [PyData.depthAll, PyData.depth, ih]
  simp [SeqAt.shaped, PyData.canLay0, PyData.depth, h1 cs, h2 cs]
theorem dp_ints {K : PySem.W.Frag} {H : Hp} : ∀ cs : List Int, DpAll K H (cs.map V.int) (cs.map PyData.int)
  | [] => .nil
  | c :: cs => .cons (.int c) (dp_ints cs)
theorem tab_eq {S : Addr → Prop} {H H2 : Hp} {a P : Addr} {q : Str} (sm : ∀ x o, x ≠ a → H x = some o → H2 x = some o) (t : TabI S H P q) (haL : ∃ xs, H a = some (.lst xs)) : H2 P = H P := by
  obtain ⟨ps, h1, _⟩ := t
  obtain ⟨xs, h2⟩ := haL
  rw [h1]
  exact sm P _ (fun z => by rw [z, h2] at h1; cases h1) h1
/-- the state of the source behind a change of its list alone -/
theorem After.draw {S : Addr → Prop} {H H2 : Hp} {a b : Addr} {cs : List Int} {t g : Int} {k : Nat} (hne : a ≠ b) (dom : ∀ x, S x → H x ≠ none) (ha : H a ≠ none) (nSa : ¬ S a) (nSb : ¬ S b) (hb : H b = some (.lst (cs.map V.int))) {T : List (Addr × Str)} {mg : Str → Option Value} (htb : ∀ q ∈ T, ¬ S q.1 ∧ TabI S H q.1 q.2) (haL : ∃ xs, H a = some (.lst xs)) {K : PySem.W.Frag} {n : Nt} (hm : MuOk (penG.wt T mg) K S H (some (a, b)) n)
    (sm : ∀ x o, x ≠ a → H x = some o → H2 x = some o) (h2 : H2 a = some (.lst [.ref b, .int t, .int g])) (h3 : cs.length ≤ 63) (ht : 0 ≤ t) (hk : t ≤ k) (hg : 0 ≤ g) : After (penG.wt T mg) K S S (some (a, b)) n H H2 ⟨k, n.μ⟩ := by
  have eqS : ∀ x, S x → H2 x = H x := fun x hx => by
    cases e : H x with
    | none => exact absurd e (dom x hx)
    | some o => exact sm x o (fun z => nSa (z ▸ hx)) e
  refine ⟨⟨fun _ h => h, eqS⟩, fun x hx => by rw [eqS x hx]; exact dom x hx, fun x hx => .inl hx, fun x o e hp _ _ => sm x o (hp (a, b) rfl).1 e, fun q hq => TabI.grow ⟨fun _ h => h, eqS⟩ (tab_eq sm (htb q hq).2 haL) (htb q hq).2, fun p e => ?_, fun x nd e => ?_, fun _ h => h, hm.2⟩
  · cases e
    exact ⟨⟨hne, cs, t, g, h2, sm b _ (Ne.symm hne) hb, h3, ht, hk, hg⟩, nSa, nSb⟩
  · obtain ⟨m1, m2, m3, m4⟩ := hm.1 x nd e
    obtain ⟨o, eo⟩ := Option.ne_none_iff_exists'.mp m1.there
    exact ⟨m1.grow ⟨fun _ h => h, eqS⟩ ((sm x o (m3 (a, b) rfl).1 eo).trans eo.symm), m2, .inl (by rw [e]; exact fun z => nomatch z)⟩
end PL

/-! The layer: a law's own def, its end. -/
namespace PL
open PySem PySem.Spec PyProof.Rows L2

section
variable {P : Program} {w : World} {K : PySem.W.Frag} {mg mb : Str → Option Value}
end

/-- a call of a def by its bare promise -/
theorem pe_callG {X : Cx} {Wx : WX} {k : Nat} {f : Addr} {fd : FuncData} {ps : List Str} {sp : Sp} {x : Str} {p pos : Pos} {e : Expr} {es : List Expr} {t : TA} (F : FnG X.prog X.w X.K X.mg X.base k f fd ps sp) (hgd : X.A.guards = some []) (hr : Room k X.A) (tk : Takes X Wx) (hg : Gl X x) (hm : X.mg x = some (.ref f)) (hk : PySem.W.keepIn X.K (.ref f) = true)
    (hb : Binds X.K fd ps []) (ha : PA X (e :: es) t) (hdb : (x == ("__debug__" : Str)) = false) (he : starEach (e :: es) X.env = (false, eval e X.env) :: starEach es X.env := by rfl) (hpl : (backTo pos (starEach es X.env)).any (·.1) = false := by rfl) :
    PE X (.Call (.Name x p) (e :: es) [] pos) (fun σ H Q => t σ H fun vs H1 => sp vs H1 Q (WE Wx σ)) :=
  ⟨fun pins s σ H Q I h => by
    refine wpAny_Call_Name_kw (ld_glob I hg hm ?_ hdb)
    refine PySem.W.callWith_K (h₀ := X.base) I.ok.mod.kin hk (thn (ha.run pos pins s σ H _ I h) fun us s1 ⟨vs, H1, I1, r1, q1⟩ => ⟨I1.kIn, ?_⟩) he hpl
    have hb1 := hb s1 us I1.kIn (by rw [List.append_nil, ← r1.length]; exact F.len _ _ _ _ q1)
    rw [List.append_nil] at hb1
    exact run_call F hgd hr tk I1 hb1 r1 q1⟩
end PL

/-! The layer: written dicts, calls by names. -/
namespace PL
open PySem PySem.Spec PyProof.Rows L2
section
variable {G : PenK} {X : Cx} {Wx : WX}
end
theorem kbd {K : PySem.W.Frag} {x qual : Str} {st : Stmt} {f : Addr} {fd : FuncData} {ps ks : List Str} {n : Nat} {order : List Nat} (F : Fun K x qual st f fd)
    (h : ∀ (kV doc pm : Value) (an : Option Addr) (cdv ct : Value) (us ws : List Value), us.length = n → ws.length = ks.length → bindArgs (PySem.W.fnOf x qual (defArgs st) (defBody st) (defScope st) .none kV doc pm an cdv ct) ⟨us, ks.zip ws⟩ = pure (ps.zip (pick order (us ++ ws)))) : KBd K fd ps n ks order := by
  obtain ⟨oc, od, kV, doc, pm, an, cdv, ct, osl, rfl, lk, hcd⟩ := F.ex
  exact fun s us ws _ h1 h2 => .of_eq (h kV doc pm an cdv ct us ws h1 h2)
end PL

/-! The layer: enumerate of a list or a tuple; name = [..] on one line. -/
namespace PL
open PySem PySem.Spec PyProof.Rows L2

section
variable {G : PenK} {X : Cx} {Wx : WX}
end
end PL

/-! What a mirror does, in plain words: Gen m c Q says that m ends with a value under Q, after at most c draws. -/
namespace PL
open PySem PySem.Spec L2
section
variable {α β : Type}
theorem bnd_ret (a : α) (f : α → W β) : bnd (ret a) f = f a := rfl
theorem bnd_bnd {γ : Type} (m : W α) (f : α → W β) (g : β → W γ) : bnd (bnd m f) g = bnd m fun a => bnd (f a) g := rfl
theorem grd_pos {p : Prop} (h : p) (m : W α) : grd p m = m := by
  funext n P X
  exact propext ⟨fun q => q.2, fun q => ⟨h, q⟩⟩
theorem few_pos {xs : List D} (h : xs.length ≤ sizeLine) (m : W α) : few xs m = m := grd_pos h m
def Gen (m : W α) (c : Nat) (Q : α → Prop) : Prop := ∀ (n : Nt) (P : α → Nt → Prop) (PX : Exc → Nt → Prop), n.n + c ≤ drawMax → (∀ a k, Q a → n.n ≤ k → k ≤ n.n + c → P a ⟨k, n.μ⟩) → m n P PX
theorem Gen.ret {a : α} {Q : α → Prop} (h : Q a) : Gen (PL.ret a) 0 Q := fun n P PX _ k => k a n.n h (Nat.le_refl _) (Nat.le_refl _)
theorem Gen.bnd {m : W α} {f : α → W β} {c d : Nat} {Q : α → Prop} {R : β → Prop} (h : Gen m c Q) (hf : ∀ a, Q a → Gen (f a) d R) : Gen (PL.bnd m f) (c + d) R := fun n P PX hn k =>
  h n _ PX (by omega) fun a j q h1 h2 => hf a q ⟨j, n.μ⟩ P PX (by show j + d ≤ _; omega) fun b i r h3 h4 => k b i r (Nat.le_trans h1 h3) (by have h4 : i ≤ j + d := h4; omega)
theorem Gen.le {m : W α} {c d : Nat} {Q R : α → Prop} (h : Gen m c Q) (hc : c ≤ d) (hq : ∀ a, Q a → R a) : Gen m d R := fun n P PX hn k => h n P PX (by omega) fun a j q h1 h2 => k a j (hq a q) h1 (by omega)
theorem Gen.to {m : W α} {c : Nat} {Q R : α → Prop} (h : Gen m c Q) (hq : ∀ a, Q a → R a) : Gen m c R := h.le (Nat.le_refl _) hq
theorem Gen.up {m : W α} {c d : Nat} {Q : α → Prop} (h : Gen m c Q) (hc : c ≤ d) : Gen m d Q := h.le hc fun _ q => q
theorem Gen.grd {p : Prop} {m : W α} {c : Nat} {Q : α → Prop} (hp : p) (h : Gen m c Q) : Gen (PL.grd p m) c Q := by rw [grd_pos hp]; exact h
theorem Gen.few {xs : List D} {m : W α} {c : Nat} {Q : α → Prop} (hp : xs.length ≤ sizeLine) (h : Gen m c Q) : Gen (PL.few xs m) c Q := Gen.grd hp h
theorem Gen.quiet {m : W α} {c : Nat} {Q : α → Prop} (h : Gen m c Q) : Gen (PL.quiet m) c Q := fun n P PX hn k => h n P _ hn k
/-- a value, no draws -/
def Is (m : W α) (a : α) : Prop := Gen m 0 (· = a)
theorem Is.ret (a : α) : Is (PL.ret a) a := Gen.ret rfl
theorem Is.of {m : W α} {a : α} (h : m = PL.ret a) : Is m a := by rw [h]; exact Is.ret a
theorem Is.bnd {m : W α} {f : α → W β} {a : α} {c : Nat} {R : β → Prop} (h : Is m a) (hf : Gen (f a) c R) : Gen (PL.bnd m f) c R := (Gen.bnd h fun b e => by rw [e]; exact hf).up (by omega)
theorem Gen.draw {b : Int} (h0 : 0 < b) (h1 : b < 1073741824) : Gen (drawB b) 1 fun d => ∃ r : Nat, d = .int r ∧ (r : Int) < b := fun n P PX hn k =>
  ⟨by omega, h0, h1, fun r j q1 q2 q3 q4 => k _ j ⟨r.toNat, by rw [Int.toNat_of_nonneg q1], by omega⟩ q3 q4⟩
theorem Gen.drawM {b : Int} (h0 : 0 < b) (h1 : b < 1073741824) : Gen (PL.drawM [.pen, .d (.int b)]) 1 fun d => ∃ r : Nat, d = .int r ∧ (r : Int) < b := Gen.draw h0 h1
end
theorem Gen.call {m : List SV → W D} {args : List SV} {c : Nat} {Q : D → Prop} (h : Gen (m args) c Q) (hc : c ≤ drawMax := by decide) : Gen (callM m args) c Q := fun n P PX hn k => by
  unfold callM
  split
  · exact h n P PX hn k
  · exact h ⟨0, n.μ⟩ _ _ (by show 0 + c ≤ _; omega) fun a j q _ _ => k a n.n q (Nat.le_refl _) (Nat.le_add_right _ _)
theorem Gen.andThen {m : W Out} {k : Env → W Out} {c d : Nat} {R : Env → Prop} {Q : D → Prop} (h : Gen m c fun o => (∃ ρ, o = .nx ρ ∧ R ρ) ∨ ∃ d ρ, o = .rt d ρ ∧ Q d) (hk : ∀ ρ, R ρ → Gen (k ρ) d fun o => ∃ d ρ, o = .rt d ρ ∧ Q d) :
    Gen (PL.andThen m k) (c + d) fun o => ∃ d ρ, o = .rt d ρ ∧ Q d :=
  Gen.bnd h fun o z => by
    rcases z with ⟨ρ, e, q⟩ | ⟨x, ρ, e, q⟩
    · rw [e]
      exact hk ρ q
    · rw [e]
      exact (Gen.ret ⟨x, ρ, rfl, q⟩).up (Nat.zero_le _)
/-! ### rows for simp -/
theorem tru_bl (b : Bool) : tru (.bl b) = PL.ret b := rfl
theorem blB_bl (b : Bool) : blB (.bl b) = PL.ret b := rfl
theorem leD_int (i j : Int) : leD (.int i) (.int j) = PL.ret (.bl (decide (i ≤ j))) := rfl
theorem items_lst (xs : List D) : items (.lst xs) = PL.ret xs := rfl
theorem items_tup (xs : List D) : items (.tup xs) = PL.ret xs := rfl
theorem eqD_int (i j : Int) : eqD (.int i) (.int j) = PL.ret (.bl (decide (i = j))) := by
  unfold eqD
  rw [grd_pos (.inl ⟨rfl, rfl⟩)]
  simp only [py, PyData.eqv]
  rfl
theorem ix_l {xs : List D} {i : Int} {x : D} (h : atI xs i = some x) : ixD (.lst xs) (.int i) = PL.ret x := by
  show (match atI xs i with | some x => PL.ret x | none => stuck : W D) = _
  rw [h]
theorem ix_t {xs : List D} {i : Int} {x : D} (h : atI xs i = some x) : ixD (.tup xs) (.int i) = PL.ret x := by
  show (match atI xs i with | some x => PL.ret x | none => stuck : W D) = _
  rw [h]
theorem ix_s {s : Str} {i : Int} {k : Nat} (h : atI s.cps.toList i = some k) : ixD (.str s) (.int i) = PL.ret (.str ⟨#[k]⟩) := by
  show (match atI s.cps.toList i with | some k => PL.ret (.str ⟨#[k]⟩) | none => stuck : W D) = _
  rw [h]
theorem ix0 (x : D) (xs : List D) : ixD (.tup (x :: xs)) (.int 0) = PL.ret x := ix_t (atI_nat (j := 0) rfl)
theorem ix1 (a x : D) (xs : List D) : ixD (.tup (a :: x :: xs)) (.int 1) = PL.ret x := ix_t (atI_nat (j := 1) rfl)
theorem ix2 (a b x : D) (xs : List D) : ixD (.tup (a :: b :: x :: xs)) (.int 2) = PL.ret x := ix_t (atI_nat (j := 2) rfl)
/-- what may be shown, built from short parts -/
inductive Ok : D → Prop
  | non : Ok .non
  | bl (b : Bool) : Ok (.bl b)
  | int {i : Int} (h : i.natAbs < 10 ^ 61) : Ok (.int i)
  | str {s : Str} (h : okD (.str s) = true) : Ok (.str s)
  | lst {xs : List D} (h : ∀ x ∈ xs, Ok x) : Ok (.lst xs)
  | tup {xs : List D} (h : ∀ x ∈ xs, Ok x) : Ok (.tup xs)
  | dic0 : Ok (.dic [])
  | dic1 {s : Str} {i : Int} (h : okD (.str s) = true) (h2 : i.natAbs < 10 ^ 61) : Ok (.dic [(.inr s, .int i)])
theorem str_short {s : Str} (h : okD (.str s) = true) (B : Nat) : (py (.str s)).leavesShort B = true := by
  simp only [okD, SeqAt.shaped, py, PyData.canLay0, PyData.strOk, Bool.and_eq_true] at h
  simp only [py, PyData.leavesShort, List.all_eq_true, decide_eq_true_eq]
  have q := h.1
  rw [← Array.all_toList, List.all_eq_true] at q
  intro c hc
  have := of_decide_eq_true (q c hc)
  have e : (16 : Nat) ^ 8 = 4294967296 := by decide
  omega
theorem int_short {i : Int} (h : i.natAbs < 10 ^ 61) : (py (.int i)).leavesShort 62 = true := by
  simp only [py, PyData.leavesShort, PyData.shown]
  apply decide_eq_true
  rw [ofString_length]
  exact int_text_length_le10 (by decide) h
theorem int_showable {i : Int} (h : i.natAbs < 10 ^ 61) : (py (.int i)).showable = true := by
  simp only [py, PyData.showable, decide_eq_true_eq]
  refine Nat.lt_of_le_of_lt (?_ : i.natAbs.log2 ≤ 300) (by decide)
  by_cases hz : i.natAbs = 0
  · rw [hz]; decide
  · exact Nat.le_of_lt_succ ((Nat.log2_lt hz).mpr (Nat.lt_trans h (by decide +kernel)))
theorem pys_short : ∀ {xs : List D}, (∀ x ∈ xs, (py x).leavesShort 62 = true ∧ (py x).showable = true) → PyData.leavesShortAll 62 (pys xs) = true ∧ PyData.showableAll (pys xs) = true
  | [], _ => ⟨by simp [pys, PyData.leavesShortAll], by simp [pys, PyData.showableAll]⟩
  | x :: xs, h => by
    have ih := pys_short (xs := xs) fun y hy => h y (List.mem_cons_of_mem _ hy)
    have q := h x List.mem_cons_self
    exact ⟨by simp [pys, PyData.leavesShortAll, q.1, ih.1], by simp [pys, PyData.showableAll, q.2, ih.2]⟩
theorem Ok.short : ∀ {x : D}, Ok x → (py x).leavesShort 62 = true ∧ (py x).showable = true := by
  intro x h
  induction h with
  | non => exact ⟨by simp [py, PyData.leavesShort], by simp [py, PyData.showable]⟩
  | bl b => exact ⟨by simp [py, PyData.leavesShort], by simp [py, PyData.showable]⟩
  | int h => exact ⟨int_short h, int_showable h⟩
  | str h => exact ⟨str_short h _, by simp [py, PyData.showable]⟩
  | lst _ ih => exact ⟨by simp [py, PyData.leavesShort, (pys_short ih).1], by simp [py, PyData.showable, (pys_short ih).2]⟩
  | tup _ ih => exact ⟨by simp [py, PyData.leavesShort, (pys_short ih).1], by simp [py, PyData.showable, (pys_short ih).2]⟩
  | dic0 => exact ⟨by simp [py, pyk, PyData.leavesShort, PyData.leavesShortKv], by simp [py, pyk, PyData.showable, PyData.showableKv]⟩
  | dic1 h h2 =>
    have a := str_short h 62
    have b := int_short h2
    have c := int_showable h2
    refine ⟨?_, ?_⟩
    · show (PyData.leavesShort 62 (py (.str _)) && PyData.leavesShort 62 (py (.int _)) && true) = true
      rw [a, b]
      rfl
    · show (true && PyData.showable (py (.int _)) && true) = true
      rw [c]
      rfl
theorem repr_ok {x : D} (h : Ok x) (hb : (py x).bulk ≤ 200000) (hd : (py x).depth ≤ 64) : reprD x = PL.ret (.str (py x).shown) ∧ (py x).shown.length ≤ sizeLine := by
  have h1 := PyData.shown_le_bulk 62 (by decide) (py x) h.short.1
  have h2 : (py x).shown.length ≤ sizeLine := by rw [sizeLine_eq]; omega
  exact ⟨grd_pos ⟨h.short.2, h2, hd⟩ _, h2⟩
theorem Gen.take {b : Int} (h0 : 0 < b := by decide) (h1 : b < 1073741824 := by decide) : Gen (callM PL.drawM [.pen, .d (.int b)]) 1 fun d => ∃ r : Nat, d = .int r ∧ (r : Int) < b := Gen.call (Gen.drawM h0 h1)
theorem fewS {α : Type} {xs : List D} (h : xs.length ≤ 1000) (m : W α) : few xs m = m := few_pos (by rw [sizeLine_eq]; omega) m
theorem Gen.tk {β : Type} {b : Int} {f : D → W β} {C : Nat} {Q : β → Prop} (c : Nat) (k : ∀ r : Nat, (r : Int) < b → Gen (f (.int r)) c Q) (hc : c + 1 ≤ C := by decide) (h0 : 0 < b := by decide) (h1 : b < 1073741824 := by decide) : Gen (PL.bnd (callM PL.drawM [.pen, .d (.int b)]) f) C Q :=
  (Gen.bnd (Gen.take h0 h1) fun d ⟨r, e, hr⟩ => by rw [e]; exact k r hr).up (by omega)
theorem Gen.ty {α β : Type} {m : W α} {f : α → W β} {C : Nat} {R : α → Prop} {Q : β → Prop} (c d : Nat) (h : Gen m c R) (k : ∀ a, R a → Gen (f a) d Q) (hc : c + d ≤ C := by decide) : Gen (PL.bnd m f) C Q := (Gen.bnd h k).up hc
theorem joinL_nil : ∀ ks : List Nat, TL.joinL [] (ks.map fun k => [k]) = ks
  | [] => rfl
  | [_] => rfl
  | k :: j :: r => by
    show [k] ++ ([] ++ TL.joinL [] ((j :: r).map fun k => [k])) = _
    rw [joinL_nil (j :: r)]
    rfl
theorem join_signs (ks : List Nat) : Txt.join (Str.ofString "") (ks.map fun k => (⟨#[k]⟩ : Str)) = ⟨ks.toArray⟩ := by
  have e : TL.tl (Txt.join (Str.ofString "") (ks.map fun k => (⟨#[k]⟩ : Str))) = ks := by
    rw [TL.join_eq, TL.tl_join, List.map_map]
    exact joinL_nil ks
  have e2 : ∀ x : Str, x = ⟨(TL.tl x).toArray⟩ := fun x => by cases x; rfl
  rw [e2 (Txt.join _ _), e]
theorem txts_signs : ∀ ks : List Nat, txts (ks.map fun k => D.str ⟨#[k]⟩) = some (ks.map fun k => ⟨#[k]⟩)
  | [] => rfl
  | k :: ks => by
    show (txts (ks.map _)).map _ = _
    rw [txts_signs ks]
    rfl
theorem sum_ones : ∀ ks : List Nat, ((ks.map fun k => (⟨#[k]⟩ : Str)).map (·.length)).sum = ks.length
  | [] => rfl
  | k :: ks => by
    rw [List.map_cons, List.map_cons, List.sum_cons, sum_ones ks, List.length_cons]
    show 1 + _ = _
    omega
theorem joinD_signs (ks : List Nat) (h : ks.length ≤ 1000) : joinD (.str (Str.ofString "")) (.lst (ks.map fun k => .str ⟨#[k]⟩)) = PL.ret (.str ⟨ks.toArray⟩) := by
  show joinW _ _ = _
  unfold joinW
  rw [txts_signs]
  show grd _ _ = _
  rw [join_signs]
  have e : (Str.mk ks.toArray).length = ks.length := List.size_toArray
  refine grd_pos ⟨?_, by rw [e, sizeLine_eq]; omega⟩ _
  rw [sum_ones, List.length_map, show (Str.ofString "").length = 0 from rfl]
  omega
theorem signs_ok {l : List D} {p : Nat → Prop} : (∀ y ∈ l, ∃ k, y = .str ⟨#[k]⟩ ∧ p k) → ∃ ks : List Nat, l = ks.map (fun k => .str ⟨#[k]⟩) ∧ ks.length = l.length ∧ ∀ k ∈ ks, p k := by
  induction l with
  | nil => exact fun _ => ⟨[], rfl, rfl, fun _ h => nomatch h⟩
  | cons y l ih =>
    intro h
    obtain ⟨k, rfl, hk⟩ := h y List.mem_cons_self
    obtain ⟨ks, rfl, e, hp⟩ := ih fun z hz => h z (List.mem_cons_of_mem _ hz)
    exact ⟨k :: ks, rfl, by simp, fun j hj => by rcases List.mem_cons.mp hj with rfl | hj; exact hk; exact hp j hj⟩
theorem okD_small {s : Str} (h : ∀ k ∈ s.cps.toList, k < 1114112) : okD (.str s) = true := by
  simp only [okD, SeqAt.shaped, py, PyData.canLay0, PyData.strOk, PyData.depth, Bool.and_eq_true]
  refine ⟨?_, by decide⟩
  rw [← Array.all_toList, List.all_eq_true]
  exact fun k hk => decide_eq_true (h k hk)
end PL

/-! Statements over a state whose names are told one by one: a block's mirror speaks of values alone. -/
namespace PL
open PySem PySem.Spec L2 PyProof.Rows

/-- how a block's ends are carried on -/
structure Enz (γ : Type) where
  nx : Env → W γ → Prop
  rt : D → W γ → Prop
  bk : Env → W γ → Prop
  ct : Env → W γ → Prop
inductive Step (J γ : Type) where
  | go (j : J) | bk (j : J) | out (g : γ)
def forK {J γ : Type} (k f : J → W γ) : Step J γ → W γ
  | .go j => f j
  | .bk j => k j
  | .out g => ret g
def forT {α J γ : Type} (bd : α → J → W (Step J γ)) (k : J → W γ) : List α → J → W γ
  | [], j => k j
  | x :: xs, j => bnd (bd x j) (forK k fun j' => forT bd k xs j')
/-- some names forgotten -/
def Le (ρ ρ' : Env) : Prop := ρ'.length = ρ.length ∧ ∀ i : Nat, ρ'[i]? = ρ[i]? ∨ ρ'[i]? = some .un
theorem Le.refl {ρ : Env} : Le ρ ρ := ⟨rfl, fun _ => .inl rfl⟩
theorem Le.nil : Le [] [] := .refl
theorem Le.same {s : SV} {ρ ρ' : Env} (h : Le ρ ρ') : Le (s :: ρ) (s :: ρ') := ⟨by simp [h.1], fun i => match i with
  | 0 => .inl rfl
  | i + 1 => h.2 i⟩
theorem Le.un {s : SV} {ρ ρ' : Env} (h : Le ρ ρ') : Le (s :: ρ) (.un :: ρ') := ⟨by simp [h.1], fun i => match i with
  | 0 => .inr rfl
  | i + 1 => h.2 i⟩

section
variable {G : PenK} {K : PySem.W.Frag} {c : C} {σ : L2.St} {ρ ρ' : Env} {H : Hp} {n : Nt}
theorem SI.le (I : SI G K c σ H ρ n) (h : Le ρ ρ') : SI G K c σ H ρ' n := by
  have key : ∀ (i : Nat) (sv : SV), ρ'[i]? = some sv → sv = .un ∨ ρ[i]? = some sv := fun i sv e => by
    rcases h.2 i with q | q
    · exact .inr (q ▸ e)
    · rw [q] at e; exact .inl (Option.some.inj e).symm
  refine ⟨h.1.trans I.len, fun i sv e => ?_, fun i sv a e ho => ?_, fun i j sv sv' a hn e e' ho ho' => ?_, I.dom, I.fr, I.pen, I.no, I.tab, I.mu, I.mu0, I.mz⟩
  · rcases key i sv e with rfl | q
    · trivial
    · exact I.slots i sv q
  · rcases key i sv e with rfl | q
    · cases ho
    · exact I.own i sv a q ho
  · rcases key i sv e with rfl | q
    · cases ho
    · rcases key j sv' e' with rfl | q'
      · cases ho'
      · exact I.apart i j sv sv' a hn q q' ho ho'
end

section
variable (G : PenK) (X : Cx) (Wx : WX) {γ : Type}
def GlE (En : Enz γ) (c : C) (H : Hp) (P : γ → Nt → Prop) (PX : Exc → Nt → Prop) (Dn : Ends) : Prop :=
  (∀ ρ' m k σ' S' H', En.nx ρ' m → m k P PX → Grow c.S S' H H' → SI G X.K (c.to S') σ' H' ρ' k → Dn.nx σ' H') ∧
  (∀ d m k v σ' ρ' S' H', En.rt d m → m k P PX → Grow c.S S' H H' → SI G X.K (c.to S') σ' H' ρ' k → Rep X.K S' H' d v → Dn.rt v H') ∧
  (∀ ρ' m k σ' S' H', En.bk ρ' m → m k P PX → Grow c.S S' H H' → SI G X.K (c.to S') σ' H' ρ' k → Dn.bk σ' H') ∧
  ∀ ρ' m k σ' S' H', En.ct ρ' m → m k P PX → Grow c.S S' H H' → SI G X.K (c.to S') σ' H' ρ' k → Dn.ct σ' H'
def tG (ρ : Env) (En : Enz γ) (m : W γ) : TS := fun Dn σ H => ∃ c n P PX, SI G X.K c σ H ρ n ∧ m n P PX ∧ GlE G X En c H P PX Dn ∧ OKs G X Wx c H PX
def SG (ss : List Stmt) (ρ : Env) (En : Enz γ) (m : W γ) : Prop := PSs X ss (tG G X Wx ρ En m)
end
section
variable {G : PenK} {X : Cx} {Wx : WX} {γ : Type} {En : Enz γ} {ρ ρ' : Env} {rest : List Stmt} {m : W γ}
theorem GlE.grow {c : C} {H H' : Hp} {P : γ → Nt → Prop} {PX : Exc → Nt → Prop} {Dn : Ends} {S' : Addr → Prop} (h : GlE G X En c H P PX Dn) (g : Grow c.S S' H H') : GlE G X En (c.to S') H' P PX Dn :=
  ⟨fun ρ m k σ S2 H2 e p g2 I => h.1 ρ m k σ S2 H2 e p (g.trans g2) I, fun d m k v σ ρ S2 H2 e p g2 I r => h.2.1 d m k v σ ρ S2 H2 e p (g.trans g2) I r,
    fun ρ m k σ S2 H2 e p g2 I => h.2.2.1 ρ m k σ S2 H2 e p (g.trans g2) I, fun ρ m k σ S2 H2 e p g2 I => h.2.2.2 ρ m k σ S2 H2 e p (g.trans g2) I⟩
theorem pss_un {α : Type} {t : α → TS} (h : ∀ a, PSs X rest (t a)) : PSs X rest (fun Dn σ H => ∃ a, t a Dn σ H) := ⟨fun pins s σ H D I ⟨a, q⟩ => (h a).run pins s σ H D I q⟩
theorem pss_no : PSs X rest (fun _ _ _ => False) := ⟨fun _ _ _ _ _ _ q => q.elim⟩
theorem inj_eq {α β : Type} {e : α → β} (inj : ∀ a b, e a = e b → a = b) (k : α → Nt → Prop) : (fun a j => ∃ b, e a = e b ∧ k b j) = k := by
  funext a j
  exact propext ⟨fun ⟨b, h, q⟩ => (inj a b h) ▸ q, fun q => ⟨a, rfl, q⟩⟩
theorem sg_eq {ss : List Stmt} {m m' : W γ} (h : SG G X Wx ss ρ En m) (e : m = m') : SG G X Wx ss ρ En m' := e ▸ h
theorem sg_nil (h : En.nx ρ m) : SG G X Wx [] ρ En m := weakSs pss_nil fun Dn σ H ⟨c, n, P, PX, I, q, hg, hx⟩ => hg.1 ρ m n σ c.S H h q .refl I
/-- a statement behind which one goes on -/
theorem sg_stmt {s : Stmt} {g : Env → W Out} {α : Type} {m0 : W α} {e : α → Env} {k : α → W γ} (h : St1 G X Wx s g) (hg : g ρ = bnd m0 fun a => ret (.nx (e a))) (inj : ∀ a b, e a = e b → a = b) (hr : ∀ a, SG G X Wx rest (e a) En (k a)) :
    SG G X Wx (s :: rest) ρ En (bnd m0 k) :=
  weakSs (pss_cons h (pss_un hr)) fun Dn σ H ⟨c, n, P, PX, I, q, hgl, hx⟩ => by
    refine ⟨c, ρ, n, fun o j => ∃ a, o = .nx (e a) ∧ k a j P PX, PX, I, ?_, ⟨fun ρ' j σ' S' H' ⟨a, ea, p⟩ g I' => ?_, fun d j v σ' ρ' S' H' ⟨a, ea, p⟩ _ _ _ => (nomatch ea), fun ρ' j σ' S' H' ⟨a, ea, p⟩ _ _ => (nomatch ea), fun ρ' j σ' S' H' ⟨a, ea, p⟩ _ _ => (nomatch ea)⟩, hx⟩
    · rw [hg]
      have ee := inj_eq (e := fun a => Out.nx (e a)) (fun a b z => inj a b (Out.nx.inj z)) fun a j => k a j P PX
      show m0 n (fun a j => ∃ b, Out.nx (e a) = Out.nx (e b) ∧ k b j P PX) PX
      rw [ee]
      exact q
    · cases ea
      exact ⟨a, c.to S', j, P, PX, I', p, hgl.grow g, hx.grow g⟩
/-- .. whose value is dropped -/
theorem sg_drop {s : Stmt} {g : Env → W Out} {α : Type} {m0 : W α} {k : W γ} (h : St1 G X Wx s g) (hg : g ρ = bnd m0 fun _ => ret (.nx ρ)) (hr : SG G X Wx rest ρ En k) : SG G X Wx (s :: rest) ρ En (bnd m0 fun _ => k) :=
  weakSs (pss_cons h hr) fun Dn σ H ⟨c, n, P, PX, I, q, hgl, hx⟩ => by
    refine ⟨c, ρ, n, fun o j => o = .nx ρ ∧ k j P PX, PX, I, ?_, ⟨fun ρ' j σ' S' H' ⟨ea, p⟩ g I' => ?_, fun d j v σ' ρ' S' H' ⟨ea, p⟩ _ _ _ => (nomatch ea), fun ρ' j σ' S' H' ⟨ea, p⟩ _ _ => (nomatch ea), fun ρ' j σ' S' H' ⟨ea, p⟩ _ _ => (nomatch ea)⟩, hx⟩
    · rw [hg]
      show m0 n (fun a j => Out.nx ρ = Out.nx ρ ∧ k j P PX) PX
      have ee : (fun (a : α) (j : Nt) => Out.nx ρ = Out.nx ρ ∧ k j P PX) = fun _ j => k j P PX := by
        funext a j
        exact propext ⟨fun q => q.2, fun q => ⟨rfl, q⟩⟩
      rw [ee]
      exact q
    · cases ea
      exact ⟨c.to S', j, P, PX, I', p, hgl.grow g, hx.grow g⟩
theorem sg_ret {e : Expr} {pos : Pos} {g : Env → W D} {α : Type} {m0 : W α} {f : α → D} {r : α → W γ} (h : E G X Wx e g) (hg : g (bor ρ) = bnd m0 fun a => ret (f a)) (inj : ∀ a b, f a = f b → a = b) (hr : ∀ a, En.rt (f a) (r a)) :
    SG G X Wx (.Return (some e) pos :: rest) ρ En (bnd m0 r) :=
  weakSs (pss_cons (ps_ret h) pss_no) fun Dn σ H ⟨c, n, P, PX, I, q, hgl, hx⟩ => by
    obtain ⟨I2, g2⟩ := I.lend
    refine ⟨_, bor ρ, n, fun d j => ∃ a, d = f a ∧ r a j P PX, PX, I2, ?_, fun d j v S' H' ⟨a, ea, p⟩ g I' rv => ?_, (hx.grow g2).x⟩
    · rw [hg]
      show m0 n (fun a j => ∃ b, f a = f b ∧ r b j P PX) PX
      rw [inj_eq inj fun a j => r a j P PX]
      exact q
    · subst ea
      exact hgl.2.1 (f a) (r a) j v σ _ S' H' (hr a) p (g2.trans g) I' rv
/-- the ends of a block behind which a rest stands -/
def Enz.push (En : Enz γ) (G : PenK) (X : Cx) (Wx : WX) (rest : List Stmt) : Enz γ := { En with nx := fun ρ m => SG G X Wx rest ρ En m }
theorem sg_push {En : Enz γ} (h : SG G X Wx rest ρ En m) : SG G X Wx [] ρ (En.push G X Wx rest) m := sg_nil h
theorem sg_if {t : Expr} {a b : List Stmt} {pos : Pos} {gt : Env → W Bool} {mt : W Bool} {ma mb : W γ} (ht : T G X Wx t gt) (hg : gt (bor ρ) = mt) (ha : SG G X Wx a ρ (En.push G X Wx rest) ma) (hb : SG G X Wx b ρ (En.push G X Wx rest) mb) :
    SG G X Wx (.If t a b pos :: rest) ρ En (bnd mt fun x => if x = true then ma else mb) :=
  weakSs (pss_cons (ps_if ht ha hb) (pss_un fun z : { z : Env × W γ // SG G X Wx rest z.1 En z.2 } => z.2)) fun Dn σ H ⟨c, n, P, PX, I, q, hgl, hx⟩ => by
    obtain ⟨I2, g2⟩ := I.lend
    subst hg
    refine tT.bnd (f := fun x => if x = true then ma else mb) I2 q (hx.grow g2).x fun b k S' H' p g I' hx' => ?_
    obtain ⟨I3, g3⟩ := I.back g I'
    have hgl3 := hgl.grow g3
    have hx3 := hx.grow g3
    have hE : GlE G X (En.push G X Wx rest) (c.to fun a => S' a ∧ ¬ ownS ρ σ a) H' P PX { Dn with nx := fun σ H => ∃ z : { z : Env × W γ // SG G X Wx rest z.1 En z.2 }, tG G X Wx z.1.1 En z.1.2 Dn σ H } :=
      ⟨fun ρ' m k σ' S' H' e p g I => ⟨⟨(ρ', m), e⟩, _, k, P, PX, I, p, hgl3.grow g, hx3.grow g⟩, hgl3.2.1, hgl3.2.2.1, hgl3.2.2.2⟩
    cases b with
    | true => exact iteT ⟨_, k, P, PX, I3, p, hE, hx3⟩
    | false => exact iteF ⟨_, k, P, PX, I3, p, hE, hx3⟩
theorem sg_ifP {t : Expr} {a b : List Stmt} {pos : Pos} {gt : Env → W Bool} {x : Bool} {ma mb : W γ} (ht : T G X Wx t gt) (hg : gt (bor ρ) = ret x) (ha : SG G X Wx a ρ (En.push G X Wx rest) ma) (hb : SG G X Wx b ρ (En.push G X Wx rest) mb) :
    SG G X Wx (.If t a b pos :: rest) ρ En (if x = true then ma else mb) := sg_if ht hg ha hb
theorem sg_retP {e : Expr} {pos : Pos} {g : Env → W D} {d : D} (h : E G X Wx e g) (hg : g (bor ρ) = ret d) (hr : En.rt d m) : SG G X Wx (.Return (some e) pos :: rest) ρ En m :=
  sg_ret (m0 := ret ()) (f := fun _ => d) (r := fun _ => m) h hg (fun _ _ _ => rfl) fun _ => hr
theorem sg_retD {e : Expr} {pos : Pos} {g : Env → W D} {m0 : W D} {r : D → W γ} (h : E G X Wx e g) (hg : g (bor ρ) = m0) (hr : ∀ d, En.rt d (r d)) : SG G X Wx (.Return (some e) pos :: rest) ρ En (bnd m0 r) :=
  sg_ret (f := fun d => d) h (hg.trans rfl) (fun _ _ h => h) hr
/-- the ends of a loop's body -/
def Enz.loop {J : Type} (En : Enz γ) (emb : J → Env) : Enz (Step J γ) where
  nx := fun ρ m => ∃ j, m = ret (.go j) ∧ Le ρ (emb j)
  ct := fun ρ m => ∃ j, m = ret (.go j) ∧ Le ρ (emb j)
  bk := fun ρ m => ∃ j, m = ret (.bk j) ∧ Le ρ (emb j)
  rt := fun d m => ∃ mg, En.rt d mg ∧ m = bnd mg fun g => ret (.out g)
theorem map_inj {α β : Type} {f : α → β} (inj : ∀ a b, f a = f b → a = b) : ∀ xs ys : List α, xs.map f = ys.map f → xs = ys
  | [], [], _ => rfl
  | [], _ :: _, h => by simp at h
  | _ :: _, [], h => by simp at h
  | x :: xs, y :: ys, h => by
    rw [List.map_cons, List.map_cons] at h
    obtain ⟨h1, h2⟩ := List.cons.inj h
    rw [inj x y h1, map_inj inj xs ys h2]
theorem sg_for {J α β : Type} {tg it : Expr} {body : List Stmt} {pos : Pos} {t : Tg} {gi : Env → W (List D)} {mw : W (List β)} {tt : List β → List D} {f : β → D} {emb : J → Env} {j0 : J} {mu : β → W α} {e : α → J → Env} {bb : α → J → W (Step J γ)} {kk : J → W γ}
    (hp : PassesOwn (model X.prog X.w) X.A X.env X.xe) (hc : X.calm = true) (hi : Wk G X Wx tg it gi) (ht : PTg X tg t) (hgi : gi ρ = bnd mw fun ys => ret (tt ys)) (htt : ∀ ys, tt ys = ys.map f) (hf : ∀ a b, f a = f b → a = b) (hl : Le ρ (emb j0)) (hs : ∀ x j, setT t (f x) (emb j) = bnd (mu x) fun a => ret (e a j)) (inj : ∀ j a b, e a j = e b j → a = b)
    (hb : ∀ a j, SG G X Wx body (e a j) (En.loop emb) (bb a j)) (hr : ∀ j, SG G X Wx rest (emb j) En (kk j)) (hfs : ∀ x, foldedSetIterable it X.env x = pure x := by intro _; rfl) :
    SG G X Wx (.For tg it body [] pos :: rest) ρ En (bnd mw fun ys => forT (fun x j => bnd (mu x) fun a => bb a j) kk ys j0) :=
  weakSs (pss_cons (ps_for hp hc hi ht (pss_un fun z : α × J => hb z.1 z.2) hfs) (pss_un hr)) fun Dn σ H ⟨c, n, P, PX, I, q, hg, hx⟩ => by
    refine ⟨c, ρ, n, fun xs k => ∃ ys, xs = ys.map f ∧ forT (fun x j => bnd (mu x) fun a => bb a j) kk ys j0 k P PX, PX, I, ?_, fun xs k S' H' J0 ⟨ys, exs, p⟩ g I' wk => ?_, hx.x⟩
    · rw [hgi]
      show mw n (fun ys k => ∃ zs, tt ys = zs.map f ∧ forT (fun x j => bnd (mu x) fun a => bb a j) kk zs j0 k P PX) PX
      have ee : (fun ys k => ∃ zs, tt ys = zs.map f ∧ forT (fun x j => bnd (mu x) fun a => bb a j) kk zs j0 k P PX) = fun ys k => forT (fun x j => bnd (mu x) fun a => bb a j) kk ys j0 k P PX := by
        funext ys k
        exact propext ⟨fun ⟨zs, h, q⟩ => (map_inj hf ys zs ((htt ys).symm.trans h)) ▸ q, fun q => ⟨ys, htt ys, q⟩⟩
      rw [ee]
      exact q
    have hlen : xs.length = ys.length := by rw [exs, List.length_map]
    refine ⟨fun i m σ2 H2 => m = xs.length - i ∧ i ≤ xs.length ∧ ∃ S2 j2 k2, Grow S' S2 H' H2 ∧ SI G X.K (c.to S2) σ2 H2 (emb j2) k2 ∧ forT (fun x j => bnd (mu x) fun a => bb a j) kk (ys.drop i) j2 k2 P PX, ⟨_, rfl, Nat.zero_le _, S', j0, k, .refl, I'.le hl, p⟩, ?_⟩
    rintro i m σ2 H2 ⟨rfl, hi, S2, j2, k2, g2, I2, p2⟩
    have gg : Grow c.S S2 H H2 := g.trans g2
    obtain ⟨w1, w2⟩ := wk (c.to S2) (emb j2) σ2 H2 k2 i g2 I2
    by_cases hlt : i < xs.length
    · obtain ⟨go, yl⟩ := w1 hlt
      have hly : i < ys.length := hlen ▸ hlt
      have gb' : ∀ (ρ' : Env) (j' : J) (k' : Nt) (σ' : L2.St) (S'' : Addr → Prop) (H'' : Hp), Le ρ' (emb j') → forT (fun x j => bnd (mu x) fun a => bb a j) kk (ys.drop (i + 1)) j' k' P PX → Grow S2 S'' H2 H'' → SI G X.K (c.to S'') σ' H'' ρ' k' →
          ∃ S3 j3 k3, Grow S' S3 H' H'' ∧ SI G X.K (c.to S3) σ' H'' (emb j3) k3 ∧ forT (fun x j => bnd (mu x) fun a => bb a j) kk (ys.drop (i + 1)) j3 k3 P PX := fun ρ' j' k' σ' S'' H'' le p' g' I'' => ⟨S'', j', k', g2.trans g', I''.le le, p'⟩
      refine .inr ⟨go, fun σ' H'' => ∃ S3 j3 k3, Grow S' S3 H' H'' ∧ SI G X.K (c.to S3) σ' H'' (emb j3) k3 ∧ forT (fun x j => bnd (mu x) fun a => bb a j) kk (ys.drop (i + 1)) j3 k3 P PX, fun σ' H'' q => ⟨xs.length - (i + 1), by omega, rfl, hlt, q⟩, fun v H3 y => ?_⟩
      obtain ⟨S3, x, g3, I3, ex, r⟩ := yl v H3 y
      have ed : ys.drop i = ys[i] :: ys.drop (i + 1) := List.drop_eq_getElem_cons hly
      have ey : x = f ys[i] := by
        rw [exs, List.getElem?_map, List.getElem?_eq_getElem hly] at ex
        exact (Option.some.inj ex).symm
      rw [ed] at p2
      subst ey
      have hx3 := hx.grow (gg.trans g3)
      have hg3 := hg.grow (gg.trans g3)
      let PP : Step J γ → Nt → Prop := fun o k => forK kk (fun j' => forT (fun x j => bnd (mu x) fun a => bb a j) kk (ys.drop (i + 1)) j') o k P PX
      have p3 : mu ys[i] k2 (fun a k => bb a j2 k PP PX) PX := p2
      have p4 : setT t (f ys[i]) (emb j2) k2 (fun ρ' k => ∃ a, ρ' = e a j2 ∧ bb a j2 k PP PX) PX := by
        rw [hs]
        show mu ys[i] k2 (fun a k => ∃ b, e a j2 = e b j2 ∧ bb b j2 k PP PX) PX
        rw [inj_eq (inj j2) fun a k => bb a j2 k PP PX]
        exact p3
      refine gT_ok t I3 r p4 fun ρ' k' σ' ⟨a, ea, p5⟩ I4 _ _ => ?_
      subst ea
      refine ⟨(a, j2), _, k', PP, PX, I4, p5, ⟨?_, ?_, ?_, ?_⟩, hx3⟩
      · rintro ρ5 _ k5 σ5 S5 H5 ⟨j', rfl, le⟩ p6 g5 I5
        exact gb' ρ5 j' k5 σ5 S5 H5 le p6 (g3.trans g5) I5
      · rintro d5 _ k5 v5 σ5 ρ5 S5 H5 ⟨mg, hrt, rfl⟩ p6 g5 I5 r5
        exact hg3.2.1 d5 mg k5 v5 σ5 ρ5 S5 H5 hrt p6 g5 I5 r5
      · rintro ρ5 _ k5 σ5 S5 H5 ⟨j', rfl, le⟩ p6 g5 I5
        exact ⟨j', _, k5, P, PX, I5.le le, p6, hg3.grow g5, hx3.grow g5⟩
      · rintro ρ5 _ k5 σ5 S5 H5 ⟨j', rfl, le⟩ p6 g5 I5
        exact gb' ρ5 j' k5 σ5 S5 H5 le p6 (g3.trans g5) I5
    · have ee : i = ys.length := by omega
      subst ee
      rw [List.drop_length] at p2
      exact .inl ⟨w2 (by omega), j2, _, k2, P, PX, I2, p2, hg.grow gg, hx.grow gg⟩
theorem sg_forI {J β : Type} {tg it : Expr} {body : List Stmt} {pos : Pos} {t : Tg} {gi : Env → W (List D)} {mw : W (List β)} {tt : List β → List D} {f : β → D} {emb : J → Env} {j0 : J} {e : β → J → Env} {bb : β → J → W (Step J γ)} {kk : J → W γ}
    (hp : PassesOwn (model X.prog X.w) X.A X.env X.xe) (hc : X.calm = true) (hi : Wk G X Wx tg it gi) (ht : PTg X tg t) (hgi : gi ρ = bnd mw fun ys => ret (tt ys)) (htt : ∀ ys, tt ys = ys.map f) (hf : ∀ a b, f a = f b → a = b) (hl : Le ρ (emb j0)) (hs : ∀ x j, setT t (f x) (emb j) = ret (e x j)) (inj : ∀ j a b, e a j = e b j → a = b)
    (hb : ∀ a j, SG G X Wx body (e a j) (En.loop emb) (bb a j)) (hr : ∀ j, SG G X Wx rest (emb j) En (kk j)) (hfs : ∀ x, foldedSetIterable it X.env x = pure x := by intro _; rfl) :
    SG G X Wx (.For tg it body [] pos :: rest) ρ En (bnd mw fun ys => forT bb kk ys j0) :=
  sg_for (mu := ret) hp hc hi ht hgi htt hf hl (fun x j => (hs x j).trans rfl) inj hb hr hfs
theorem sg_forIP {J β : Type} {tg it : Expr} {body : List Stmt} {pos : Pos} {t : Tg} {gi : Env → W (List D)} {ys : List β} {tt : List β → List D} {f : β → D} {emb : J → Env} {j0 : J} {e : β → J → Env} {bb : β → J → W (Step J γ)} {kk : J → W γ}
    (hp : PassesOwn (model X.prog X.w) X.A X.env X.xe) (hc : X.calm = true) (hi : Wk G X Wx tg it gi) (ht : PTg X tg t) (hgi : gi ρ = ret (tt ys)) (htt : ∀ ys, tt ys = ys.map f) (hf : ∀ a b, f a = f b → a = b) (hl : Le ρ (emb j0)) (hs : ∀ x j, setT t (f x) (emb j) = ret (e x j)) (inj : ∀ j a b, e a j = e b j → a = b)
    (hb : ∀ a j, SG G X Wx body (e a j) (En.loop emb) (bb a j)) (hr : ∀ j, SG G X Wx rest (emb j) En (kk j)) (hfs : ∀ x, foldedSetIterable it X.env x = pure x := by intro _; rfl) :
    SG G X Wx (.For tg it body [] pos :: rest) ρ En (forT bb kk ys j0) :=
  sg_forI (mw := ret ys) hp hc hi ht (hgi.trans rfl) htt hf hl hs inj hb hr hfs
/-- an if whose ways assign alone -/
def EnJ {J : Type} (emb : J → Env) : Enz J where
  nx := fun ρ m => ∃ j, m = ret j ∧ Le ρ (emb j)
  rt := fun _ _ => False
  bk := fun _ _ => False
  ct := fun _ _ => False
theorem sg_ifA {J : Type} {t : Expr} {a b : List Stmt} {pos : Pos} {gt : Env → W Bool} {mt : W Bool} {emb : J → Env} {ma mb : W J} {k : J → W γ} (ht : T G X Wx t gt) (hg : gt (bor ρ) = mt) (ha : SG G X Wx a ρ (EnJ emb) ma) (hb : SG G X Wx b ρ (EnJ emb) mb) (hr : ∀ j, SG G X Wx rest (emb j) En (k j)) :
    SG G X Wx (.If t a b pos :: rest) ρ En (bnd mt fun x => bnd (if x = true then ma else mb) k) :=
  weakSs (pss_cons (ps_if ht ha hb) (pss_un hr)) fun Dn σ H ⟨c, n, P, PX, I, q, hgl, hx⟩ => by
    obtain ⟨I2, g2⟩ := I.lend
    subst hg
    refine tT.bnd (f := fun x => bnd (if x = true then ma else mb) k) I2 q (hx.grow g2).x fun b k' S' H' p g I' hx' => ?_
    obtain ⟨I3, g3⟩ := I.back g I'
    have hgl3 := hgl.grow g3
    have hx3 := hx.grow g3
    have hE : GlE G X (EnJ emb) (c.to fun a => S' a ∧ ¬ ownS ρ σ a) H' (fun j k' => k j k' P PX) PX { Dn with nx := fun σ H => ∃ j, tG G X Wx (emb j) En (k j) Dn σ H } := by
      refine ⟨?_, fun _ _ _ _ _ _ _ _ z => z.elim, fun _ _ _ _ _ _ z => z.elim, fun _ _ _ _ _ _ z => z.elim⟩
      rintro ρ' _ k5 σ' S' H' ⟨j, rfl, le⟩ p g I
      exact ⟨j, _, k5, P, PX, I.le le, p, hgl3.grow g, hx3.grow g⟩
    cases b with
    | true => exact iteT ⟨_, k', _, PX, I3, p, hE, hx3⟩
    | false => exact iteF ⟨_, k', _, PX, I3, p, hE, hx3⟩
/-- .. with other ends in its ways -/
def joinK {J γ : Type} (k : J → W γ) : Step J γ → W γ
  | .go j => k j
  | .bk j => k j
  | .out g => ret g
def Enz.join {J : Type} (En : Enz γ) (emb : J → Env) : Enz (Step J γ) where
  nx := fun ρ m => ∃ j, m = ret (.go j) ∧ Le ρ (emb j)
  rt := fun d m => ∃ mg, En.rt d mg ∧ m = bnd mg fun g => ret (.out g)
  bk := fun ρ m => ∃ mg, En.bk ρ mg ∧ m = bnd mg fun g => ret (.out g)
  ct := fun ρ m => ∃ mg, En.ct ρ mg ∧ m = bnd mg fun g => ret (.out g)
theorem sg_ifJ {J : Type} {t : Expr} {a b : List Stmt} {pos : Pos} {gt : Env → W Bool} {mt : W Bool} {emb : J → Env} {ma mb : W (Step J γ)} {k : J → W γ} (ht : T G X Wx t gt) (hg : gt (bor ρ) = mt) (ha : SG G X Wx a ρ (En.join emb) ma) (hb : SG G X Wx b ρ (En.join emb) mb) (hr : ∀ j, SG G X Wx rest (emb j) En (k j)) :
    SG G X Wx (.If t a b pos :: rest) ρ En (bnd mt fun x => bnd (if x = true then ma else mb) (joinK k)) :=
  weakSs (pss_cons (ps_if ht ha hb) (pss_un hr)) fun Dn σ H ⟨c, n, P, PX, I, q, hgl, hx⟩ => by
    obtain ⟨I2, g2⟩ := I.lend
    subst hg
    refine tT.bnd (f := fun x => bnd (if x = true then ma else mb) (joinK k)) I2 q (hx.grow g2).x fun b k' S' H' p g I' hx' => ?_
    obtain ⟨I3, g3⟩ := I.back g I'
    have hgl3 := hgl.grow g3
    have hx3 := hx.grow g3
    have hE : GlE G X (En.join emb) (c.to fun a => S' a ∧ ¬ ownS ρ σ a) H' (fun o k' => joinK k o k' P PX) PX { Dn with nx := fun σ H => ∃ j, tG G X Wx (emb j) En (k j) Dn σ H } := by
      refine ⟨?_, ?_, ?_, ?_⟩
      · rintro ρ' _ k5 σ' S' H' ⟨j, rfl, le⟩ p g I
        exact ⟨j, _, k5, P, PX, I.le le, p, hgl3.grow g, hx3.grow g⟩
      · rintro d5 _ k5 v5 σ5 ρ5 S5 H5 ⟨mg, hrt, rfl⟩ p6 g5 I5 r5
        exact hgl3.2.1 d5 mg k5 v5 σ5 ρ5 S5 H5 hrt p6 g5 I5 r5
      · rintro ρ5 _ k5 σ5 S5 H5 ⟨mg, hrt, rfl⟩ p6 g5 I5
        exact hgl3.2.2.1 ρ5 mg k5 σ5 S5 H5 hrt p6 g5 I5
      · rintro ρ5 _ k5 σ5 S5 H5 ⟨mg, hrt, rfl⟩ p6 g5 I5
        exact hgl3.2.2.2 ρ5 mg k5 σ5 S5 H5 hrt p6 g5 I5
    cases b with
    | true => exact iteT ⟨_, k', _, PX, I3, p, hE, hx3⟩
    | false => exact iteF ⟨_, k', _, PX, I3, p, hE, hx3⟩
end

/-! ### defs -/
/-- a def's own ends -/
def EnT : Enz D := ⟨fun _ m => m = ret .non, fun d m => m = ret d, fun _ _ => False, fun _ _ => False⟩
theorem sg_retT {G : PenK} {X : Cx} {Wx : WX} {ρ : Env} {En : Enz D} {rest : List Stmt} {e : Expr} {pos : Pos} {g : Env → W D} {m : W D} (h : E G X Wx e g) (hg : g (bor ρ) = m) (hr : ∀ d, En.rt d (ret d)) : SG G X Wx (.Return (some e) pos :: rest) ρ En m :=
  sg_retD (r := ret) h hg hr
section
variable {G : PenK} {P : Program} {w : World} {K : PySem.W.Frag} {mg : Str → Option Value} {base : Heap}
/-- THE RULE for a def: its body told by values -/
theorem fn_okGC {k : Nat} {f : Addr} {fd : FuncData} {x qual : Str} {st : Stmt} {N ps : List Str} {m : List SV → W D} {Sh : List SV → Prop} (F : Fun K x qual st f fd) (S : FnScope N ps (defScope st)) (hn : ps.length ≤ N.length) (hm : ∀ args n P PX, m args n P PX → Sh args)
    (body : ∀ args, Sh args → ∀ (cdv : Value) (A : Around) (outer : List PySem.Env) (s : Shared) (H : Hp) (E : XK) (Wx : WX), fd.code = cdv → A.guards = some [] → Room k (A.deeper (envOfC qual (defScope st) s.heap.objs.size f cdv)) → Takes (cxOf (L2.CX P w) P w K mg base N qual (defScope st) f cdv A outer s H E) Wx →
      PassesOwn (model P w) (A.deeper (envOfC qual (defScope st) s.heap.objs.size f cdv)) (envOfC qual (defScope st) s.heap.objs.size f cdv) (cxOf (L2.CX P w) P w K mg base N qual (defScope st) f cdv A outer s H E).xe → SG G (cxOf (L2.CX P w) P w K mg base N qual (defScope st) f cdv A outer s H E) Wx (defBody st) (args ++ List.replicate (N.length - args.length) .un) EnT (m args)) :
    FnG P w K mg base (k + 1) f fd ps (spM G K mg ps.length m) := by
  refine FnG.of_bodyC F S (fun vs H Q E ⟨S, pen, args, n, P, PX, hl, _, _, _, _, r, _⟩ => r.len.trans hl) fun cdv A outer s H vs Q E hcc hg hr ⟨S0, pen, args, n, P0, PX, hl, dom, hp, ht, hmu, r, q, hq, hx⟩ => ?_
  refine ⟨_, body args (hm args n P0 PX q) cdv A outer s H E (fun cls d _ H => E cls d H) hcc hg hr (L2.takes_of rfl rfl rfl rfl) (passes_of rfl), ?_⟩
  refine ⟨⟨S0, H, pen, fun a => H a ≠ none ∧ ¬ S0 a, fun a => n.μ a ≠ none⟩, n, P0, PX, SI.entry (by omega) dom hp ht hmu r, q, ⟨?_, ?_, fun _ _ _ _ _ _ z => z.elim, fun _ _ _ _ _ _ z => z.elim⟩, fun x k σ' ρ' S' H' cls dd p g I r => hx x k S' H' cls dd p (SI.after g I) r⟩
  · rintro ρ' _ k σ' S' H' rfl p g I
    exact hq .non k .non S' H' p (SI.after g I) rfl
  · rintro d _ k v σ' ρ' S' H' rfl p g I r
    exact hq d k v S' H' p (SI.after g I) r
/-- .. whose code is not asked for -/
theorem fn_okG {k : Nat} {f : Addr} {fd : FuncData} {x qual : Str} {st : Stmt} {N ps : List Str} {m : List SV → W D} {Sh : List SV → Prop} (F : Fun K x qual st f fd) (S : FnScope N ps (defScope st)) (hn : ps.length ≤ N.length) (hm : ∀ args n P PX, m args n P PX → Sh args)
    (body : ∀ args, Sh args → ∀ (cdv : Value) (A : Around) (outer : List PySem.Env) (s : Shared) (H : Hp) (E : XK) (Wx : WX), A.guards = some [] → Room k (A.deeper (envOfC qual (defScope st) s.heap.objs.size f cdv)) → Takes (cxOf (L2.CX P w) P w K mg base N qual (defScope st) f cdv A outer s H E) Wx →
      PassesOwn (model P w) (A.deeper (envOfC qual (defScope st) s.heap.objs.size f cdv)) (envOfC qual (defScope st) s.heap.objs.size f cdv) (cxOf (L2.CX P w) P w K mg base N qual (defScope st) f cdv A outer s H E).xe → SG G (cxOf (L2.CX P w) P w K mg base N qual (defScope st) f cdv A outer s H E) Wx (defBody st) (args ++ List.replicate (N.length - args.length) .un) EnT (m args)) :
    FnG P w K mg base (k + 1) f fd ps (spM G K mg ps.length m) :=
  fn_okGC F S hn hm fun args hs cdv A outer s H E Wx _ => body args hs cdv A outer s H E Wx
end
end PL

/-! Expressions whose mirrors reduce by themselves; statements by values. -/
namespace PL
open PySem PySem.Spec L2 PyProof.Rows

section
variable {α β : Type}
/-- a test of two parts -/
def andB (m k : W Bool) : W Bool := bnd m fun x => if x = true then k else ret false
def orB (m k : W Bool) : W Bool := bnd m fun x => if x = true then ret true else k
def andD (m k : W D) : W D := bnd m fun x => bnd (tru x) fun b => if b = true then k else ret x
theorem andB_ret (a b : Bool) : andB (ret a) (ret b) = ret (a && b) := by cases a <;> rfl
theorem orB_ret (a b : Bool) : orB (ret a) (ret b) = ret (a || b) := by cases a <;> rfl
theorem andB_t (k : W Bool) : andB (ret true) k = k := rfl
theorem andB_f (k : W Bool) : andB (ret false) k = ret false := rfl
theorem orB_f (k : W Bool) : orB (ret false) k = k := rfl
theorem andD_bl (a b : Bool) : andD (ret (.bl a)) (ret (.bl b)) = ret (.bl (a && b)) := by cases a <;> rfl
theorem andD_t (k : W D) : andD (ret (.bl true)) k = k := rfl
theorem andD_f (k : W D) : andD (ret (.bl false)) k = ret (.bl false) := rfl
theorem thenB_bl (a b : Bool) : thenB (ret (.bl a)) (ret (.bl b)) = ret (.bl (a && b)) := by cases a <;> rfl

def intI : D → W Int
  | .int i => ret i
  | _ => stuck
def lenI : D → W Int
  | .lst xs => ret xs.length
  | .tup xs => ret xs.length
  | .str x => ret x.length
  | .dic kvs => ret kvs.length
  | _ => stuck
def addS (a b : Str) : W Str := grd (a.length + b.length ≤ sizeLine) (ret (a ++ b))
def addL (a b : List D) : W (List D) := grd (a.length + b.length ≤ sizeLine) (ret (a ++ b))
def eqB (a b : D) : W Bool := grd (eqQ a b) (ret (PyData.eqv (py a) (py b)))
def neB (a b : D) : W Bool := grd (eqQ a b) (ret (!PyData.eqv (py a) (py b)))
/-- a draw below b -/
def drw (b : Int) : W Int := fun n P _ => n.n < drawMax ∧ 0 < b ∧ b < 1073741824 ∧ ∀ r k, 0 ≤ r → r < b → n.n ≤ k → k ≤ n.n + 1 → P r ⟨k, n.μ⟩
/-- a call without the source of draws -/
def cl (m : W D) : W D := fun n P PX => m ⟨0, n.μ⟩ (fun d k => P d ⟨n.n, k.μ⟩) fun x k => PX x ⟨n.n, k.μ⟩
theorem cl_ret (d : D) : cl (ret d) = ret d := rfl
def unp2 : D → W (D × D)
  | .tup [a, b] => ret (a, b)
  | .lst [a, b] => ret (a, b)
  | _ => stuck
theorem setT_tp2 (i j : Nat) (x : D) (ρ : Env) : setT (.tp [.nm i, .nm j]) x ρ = bnd (unp2 x) fun p => ret ((ρ.set i (.d p.1)).set j (.d p.2)) := by
  cases x with
  | tup xs =>
    match xs with
    | [] => funext n P X; exact propext ⟨fun h => (by have q := h.1; simp at q), fun h => False.elim h⟩
    | [a] => funext n P X; exact propext ⟨fun h => (by have q := h.1; simp at q), fun h => False.elim h⟩
    | [a, b] => exact grd_pos rfl _
    | a :: b :: c :: l => funext n P X; exact propext ⟨fun h => (by have q := h.1; simp at q), fun h => False.elim h⟩
  | lst xs =>
    match xs with
    | [] => funext n P X; exact propext ⟨fun h => (by have q := h.1; simp at q), fun h => False.elim h⟩
    | [a] => funext n P X; exact propext ⟨fun h => (by have q := h.1; simp at q), fun h => False.elim h⟩
    | [a, b] => exact grd_pos rfl _
    | a :: b :: c :: l => funext n P X; exact propext ⟨fun h => (by have q := h.1; simp at q), fun h => False.elim h⟩
  | _ => rfl
/-- parts in a row -/
def bndL : List (W D) → (List D → W β) → W β
  | [], f => f []
  | m :: ms, f => bnd m fun x => bndL ms fun xs => f (x :: xs)
theorem bndL_bnd : ∀ (ms : List (W D)) (f : List D → W α) (k : α → W β), bnd (bndL ms f) k = bndL ms fun xs => bnd (f xs) k
  | [], _, _ => rfl
  | m :: ms, f, k => by
    show bnd m (fun x => bnd (bndL ms fun xs => f (x :: xs)) k) = bnd m _
    congr 1
    funext x
    exact bndL_bnd ms _ k
theorem bndL_len : ∀ (ms : List (W D)) {f f' : List D → W β}, (∀ xs, xs.length = ms.length → f xs = f' xs) → bndL ms f = bndL ms f'
  | [], _, _, h => h [] rfl
  | m :: ms, f, f', h => by
    show bnd m _ = bnd m _
    congr 1
    funext x
    exact bndL_len ms fun xs e => h (x :: xs) (by simp [e])
/-- a comprehension -/
def optK (k : D → W β) (m : W β) : Option D → W β
  | some y => k y
  | none => m
def compP (f : α → W (Option D)) : List α → W (List D)
  | [] => ret []
  | x :: xs => bnd (f x) (optK (fun y => bnd (compP f xs) fun ys => ret (y :: ys)) (compP f xs))
def fewN (n : Nat) (m : W β) : W β := grd (n ≤ sizeLine) m
/-- [f(x) for x in xs] -/
def mapP (f : α → W D) (xs : List α) : W (List D) := fewN xs.length (quiet (compP (fun x => bnd (f x) fun y => ret (some y)) xs))
/-- [f(x) for x in xs if t(x)] -/
def selP (t : α → W Bool) (f : α → W D) (xs : List α) : W (List D) := fewN xs.length (quiet (compP (fun x => bnd (t x) fun k => if k = true then bnd (f x) fun y => ret (some y) else ret none) xs))
theorem compP_map {γ : Type} (h : γ → α) (f : α → W (Option D)) : ∀ xs : List γ, compP f (xs.map h) = compP (fun x => f (h x)) xs
  | [] => rfl
  | x :: xs => by
    show bnd (f (h x)) _ = bnd (f (h x)) _
    rw [compP_map h f xs]
theorem compW_P {t : Tg} {gt : Env → W Bool} {ge : Env → W D} {ρ : Env} : ∀ xs : List D, compW t gt ge ρ xs = compP (fun x => bnd (setT t x ρ) fun ρ' => bnd (gt ρ') fun k => if k = true then bnd (ge ρ') fun y => ret (some y) else ret none) xs
  | [] => rfl
  | x :: xs => by
    show bnd (setT t x ρ) _ = bnd (bnd (setT t x ρ) _) _
    rw [bnd_bnd]
    congr 1
    funext ρ'
    rw [bnd_bnd]
    congr 1
    funext b
    rw [← compW_P xs]
    cases b <;> rfl
end

section
variable {G : PenK} {X : Cx} {Wx : WX}
theorem E.filt {e : Expr} {g : Env → W D} {h : D → W D} (he : E G X Wx e g) (hh : ∀ x k P PX, h x k P PX → P x k) : E G X Wx e (fun ρ => bnd (g ρ) h) :=
  weakE he fun σ H Q ⟨c, ρ, n, P, PX, I, q, hg, hx⟩ => ⟨c, ρ, n, fun x k => h x k P PX, PX, I, q, fun d k v S' H' p g I' r => hg d k v S' H' (hh d k P PX p) g I' r, hx⟩
theorem E.eq {e : Expr} {g g' : Env → W D} (he : E G X Wx e g) (h : g = g') : E G X Wx e g' := h ▸ he
theorem e_asI {e : Expr} {g : Env → W D} (he : E G X Wx e g) : E G X Wx e (fun ρ => bnd (g ρ) fun x => bnd (intI x) fun i => ret (.int i)) :=
  he.filt fun x k P PX h => by cases x <;> first | exact h | exact False.elim h
theorem e_lenI {p pos : Pos} {e : Expr} {g : Env → W D} (hm : X.mg "len" = none) (h : E G X Wx e g) (hg : Gl X "len" := by rfl) (he : starEach [e] X.env = (false, eval e X.env) :: starEach [] X.env := by rfl) :
    E G X Wx (.Call (.Name "len" p) [e] [] pos) (fun ρ => bnd (g ρ) fun x => bnd (lenI x) fun i => ret (.int i)) :=
  (e_len' hm h hg he).eq (by
    have q : lenD = fun x => bnd (lenI x) fun i => ret (.int i) := by funext x; cases x <;> rfl
    rw [q])
/-! ### comparisons of known kinds -/
def eqI : D → D → W D
  | .int i, .int j => ret (.bl (decide (i = j)))
  | _, _ => stuck
def eqS : D → D → W D
  | .str i, .str j => ret (.bl (i == j))
  | _, _ => stuck
theorem Cm.imp {op : CmpOp} {h h' : D → D → W D} (m : Cm G X Wx op h) (hh : ∀ d e n P PX, h' d e n P PX → h d e n P PX) : Cm G X Wx op h' := by
  obtain ⟨r, o, v⟩ := m
  exact ⟨r, o, fun c σ ρ H n P PX d e v' w Q I rd re q hg hx => v c σ ρ H n P PX d e v' w Q I rd re (hh d e n P PX q) hg hx⟩
theorem cm_eqI (hu : X.A.units + 64 < cLine) : Cm G X Wx .Eq eqI := (cm_eq hu).imp fun d e n P PX h => by
  cases d <;> cases e <;> first | (rw [eqD_int]; exact h) | exact False.elim h
/-- a ** b of written numbers -/
theorem e_powC {a b : Expr} {pos : Pos} {i j v : Int} (ha : E G X Wx a (fun _ => ret (.int i))) (hb : E G X Wx b (fun _ => ret (.int j))) (h : CPow i j := by unfold CPow; decide +kernel) (hv : i ^ j.toNat = v := by decide +kernel) : E G X Wx (.BinOp a .Pow b pos) (fun _ => ret (.int v)) :=
  (e_pow ha hb).eq (by
    funext ρ
    show powD (.int i) (.int j) = _
    rw [← hv]
    exact grd_pos h _)
/-! ### displays -/
def AL (G : PenK) (X : Cx) (Wx : WX) (es : List Expr) (gs : List (Env → W D)) : Prop := A G X Wx es (fun ρ => bndL (gs.map fun g => g ρ) ret)
theorem A.eq {es : List Expr} {g g' : Env → W (List D)} (he : A G X Wx es g) (h : g = g') : A G X Wx es g' := h ▸ he
theorem al_nil : AL G X Wx [] [] := a_nil
theorem al_cons {e : Expr} {es : List Expr} {g : Env → W D} {gs : List (Env → W D)} (h : E G X Wx e g) (hs : AL G X Wx es gs) (hp : starEach (e :: es) X.env = (false, eval e X.env) :: starEach es X.env := by rfl) : AL G X Wx (e :: es) (g :: gs) :=
  (a_cons h hs hp).eq (by
    funext ρ
    show bnd (g ρ) (fun x => bnd (bndL (gs.map fun g => g ρ) ret) fun xs => ret (x :: xs)) = bnd (g ρ) fun x => bndL (gs.map fun g => g ρ) fun xs => ret (x :: xs)
    congr 1
    funext x
    rw [bndL_bnd]
    rfl)
theorem bndL_few {β : Type} {ms : List (W D)} {f : List D → W β} (h : ms.length ≤ 1000) : bnd (bndL ms ret) (fun xs => few xs (f xs)) = bndL ms f := by
  rw [bndL_bnd]
  exact bndL_len ms fun xs e => fewS (by omega) _
theorem e_tupL {es : List Expr} {x1 : Nat} {pos : Pos} {gs : List (Env → W D)} (h : AL G X Wx es gs) (hz : gs.length ≤ 1000 := by decide) : E G X Wx (.Tuple es x1 pos) (fun ρ => bndL (gs.map fun g => g ρ) fun xs => ret (.tup xs)) :=
  (e_tup h).eq (by funext ρ; exact bndL_few (by simpa using hz))
theorem EO.eq {e : Expr} {g g' : Env → W (List D)} (he : EO G X Wx e g) (h : g = g') : EO G X Wx e g' := h ▸ he
theorem o_lstL {es : List Expr} {pos : Pos} {gs : List (Env → W D)} (h : AL G X Wx es gs) (hz : gs.length ≤ 1000 := by decide) : EO G X Wx (.List es pos) (fun ρ => bndL (gs.map fun g => g ρ) ret) :=
  (o_lst h).eq (by funext ρ; exact bndL_few (by simpa using hz))
/-! ### comprehensions -/
theorem grd_onB {α : Type} (b : Bool) (m : W α) : grd (b = true) m = onB b m := by
  cases b with
  | true => exact grd_pos rfl m
  | false => funext n P X; exact propext ⟨fun h => (by have q := h.1; simp at q), fun h => False.elim h⟩
/-- what a comprehension's mirror is, over the values that its target takes -/
def compM {α β : Type} (mu : β → W α) (e : α → Env → Env) (vs : List Nat) (gt : Env → W Bool) (ge : Env → W D) (ρ : Env) (xs : List β) : W (List D) :=
  onB (noOwn vs ρ) (fewN xs.length (quiet (compP (fun x => bnd (mu x) fun a => bnd (gt (e a (wip vs ρ))) fun k => if k = true then bnd (ge (e a (wip vs ρ))) fun y => ret (some y) else ret none) xs)))
theorem grd_swap {α : Type} (p q : Prop) (m : W α) : grd p (grd q m) = grd q (grd p m) := by
  funext n P X
  exact propext ⟨fun ⟨a, b, c⟩ => ⟨b, a, c⟩, fun ⟨a, b, c⟩ => ⟨b, a, c⟩⟩
theorem compM_eq {α β : Type} {t : Tg} {f : β → D} {tt : List β → List D} {mu : β → W α} {e : α → Env → Env} (htt : ∀ ys, tt ys = ys.map f) (hs : ∀ x ρ, setT t (f x) ρ = bnd (mu x) fun a => ret (e a ρ)) (vs : List Nat) (gt : Env → W Bool) (ge : Env → W D) (ρ : Env) (ys : List β) :
    few (tt ys) (grd (noOwn vs ρ = true) (quiet (compW t gt ge (wip vs ρ) (tt ys)))) = compM mu e vs gt ge ρ ys := by
  unfold compM few fewN
  rw [grd_swap, grd_onB, compW_P, htt, compP_map, List.length_map]
  simp only [hs, bnd_bnd, bnd_ret]
theorem o_lcQ {α β : Type} {elt tg iter : Expr} {ifs : List Expr} {scope : Scope} {own : List (Str × Nat)} {pos : Pos} {t : Tg} {gy : Env → W (List β)} {tt : List β → List D} {f : β → D} {gt : Env → W Bool} {ge : Env → W D} {mu : β → W α} {ee : α → Env → Env} (htt : ∀ ys, tt ys = ys.map f) (hsT : ∀ x ρ, setT t (f x) ρ = bnd (mu x) fun a => ret (ee a ρ)) (hc : X.calm = true) (hN : X.N.Nodup) (hi : Wk G X Wx tg iter (fun ρ => bnd (gy ρ) fun ys => ret (tt ys))) (ok : BlkOk X.N X.env.scope scope own)
    (hg : ∀ (s : Shared) (H : Hp) (A : Addr) (cl : List (Str × Addr)) (fp : List Addr), PTg (X.blk s H scope (compEnvC scope cl A X.env) fp) tg t) (ht : ∀ (s : Shared) (H : Hp) (A : Addr) (cl : List (Str × Addr)) (fp : List Addr), Ts G (X.blk s H scope (compEnvC scope cl A X.env) fp) ifs gt)
    (he : ∀ (s : Shared) (H : Hp) (A : Addr) (cl : List (Str × Addr)) (fp : List Addr), E G (X.blk s H scope (compEnvC scope cl A X.env) fp) WF elt ge) (hix : ∀ i ∈ t.ix, i ∈ own.map (·.2) := by decide) (hs : ∀ x, foldedSetIterable iter X.env x = pure x := by intro _; rfl) :
    EO G X Wx (.ListComp elt [⟨tg, iter, ifs, 0⟩] scope pos) (fun ρ => bnd (gy ρ) (compM mu ee (own.map (·.2)) gt ge ρ)) :=
  (o_lc hc hN hi ok hg ht he hix hs).eq (by
    funext ρ
    show bnd (bnd (gy ρ) _) _ = _
    rw [bnd_bnd]
    congr 1
    funext xs
    exact compM_eq htt hsT _ _ _ _ _)
/-! ### walks -/
theorem Wk.eq {tg e : Expr} {g g' : Env → W (List D)} (he : Wk G X Wx tg e g) (h : g = g') : Wk G X Wx tg e g' := h ▸ he
def rngZ (lo : Int) (n : Nat) : List Int := (List.range n).map fun i => lo + (i : Nat)
theorem rngZ_map (lo : Int) (n : Nat) : rng lo n = (rngZ lo n).map .int := by
  unfold rng rngZ
  rw [List.map_map]
  rfl
def rngI (i : Int) : W (List Int) := grd (inR i) (ret (rngZ 0 i.toNat))
def rngD : D → W (List Int)
  | .int i => rngI i
  | _ => stuck
theorem seqT_map (ys : List D) : (fun ys : List D => ys) ys = ys.map fun y => y := by simp
theorem w_seqZ {tg e : Expr} {g : Env → W D} (h : E G X Wx e g) : Wk G X Wx tg e (fun ρ => bnd (bnd (g ρ) items) fun ys => ret ys) := w_seq h
theorem w_rng1Z {tg e : Expr} {p pos : Pos} {g : Env → W D} (hm : X.mg "range" = none) (h : E G X Wx e g) (hg : Gl X "range" := by rfl) (hs : starEach [e] X.env = [(false, eval e X.env)] := by rfl) : Wk G X Wx tg (.Call (.Name "range" p) [e] [] pos) (fun ρ => bnd (bnd (g ρ) rngD) fun ys => ret (ys.map .int)) :=
  (w_rng1 hm h hg hs).eq (by
    have q : rng1 = fun d => bnd (rngD d) fun ys => ret (ys.map D.int) := by
      funext d
      cases d with
      | int i =>
        show grd _ (ret (rng 0 i.toNat)) = _
        rw [rngZ_map]
        rfl
      | _ => rfl
    rw [q]
    rfl)
def chD (k : Nat) : D := .str ⟨#[k]⟩
def codesD : D → W (List Nat)
  | .str x => ret x.cps.toList
  | _ => stuck
theorem w_strZ {tg e : Expr} {g : Env → W D} (h : E G X Wx e g) : Wk G X Wx tg e (fun ρ => bnd (bnd (g ρ) codesD) fun ys => ret (ys.map chD)) :=
  (w_str h).eq (by
    have q : signs = fun d => bnd (codesD d) fun ys => ret (ys.map chD) := by
      funext d
      cases d <;> rfl
    rw [q]
    rfl)
theorem int_inj (a b : Int) (h : D.int a = D.int b) : a = b := D.int.inj h
theorem str_inj (a b : Str) (h : D.str a = D.str b) : a = b := D.str.inj h
theorem lst_inj (a b : List D) (h : D.lst a = D.lst b) : a = b := D.lst.inj h
theorem tup_inj (a b : List D) (h : D.tup a = D.tup b) : a = b := D.tup.inj h
theorem id_inj {α : Type} (a b : α) (h : (fun x : α => x) a = (fun x : α => x) b) : a = b := h
theorem setT_1 (i : Nat) {β : Type} (f : β → D) (x : β) (ρ : Env) : setT (.nm i) (f x) ρ = bnd (ret x) fun a => ret (ρ.set i (.d (f a))) := rfl
/-! ### statements by values -/
variable {γ : Type} {En : Enz γ} {ρ : Env} {rest : List Stmt} {m : W γ}
theorem lt_lit {ρ : Env} {i L : Nat} (h : ρ.length = L) (hi : i < L) : i < ρ.length := h ▸ hi
theorem set_inj {α : Type} {f : α → D} {i : Nat} (hi : i < ρ.length) (inj : ∀ a b, f a = f b → a = b) (a b : α) (h : ρ.set i (.d (f a)) = ρ.set i (.d (f b))) : a = b := by
  have q := congrArg (·[i]?) h
  simp only [List.getElem?_set_self hi] at q
  exact inj a b (SV.d.inj (Option.some.inj q))
theorem own_inj {α : Type} {f : α → List D} {i : Nat} (hi : i < ρ.length) (inj : ∀ a b, f a = f b → a = b) (a b : α) (h : ρ.set i (.own (f a)) = ρ.set i (.own (f b))) : a = b := by
  have q := congrArg (·[i]?) h
  simp only [List.getElem?_set_self hi] at q
  exact inj a b (SV.own.inj (Option.some.inj q))
/-- x = e -/
theorem sg_asg {tg e : Expr} {pos : Pos} {g : Env → W D} {α : Type} {m0 : W α} {f : α → D} {k : α → W γ} {ρ' : α → Env} (i L : Nat) (h : E G X Wx e g) (ht : PTg X tg (.nm i)) (hg : g ρ = bnd m0 fun a => ret (f a)) (inj : ∀ a b, f a = f b → a = b) (hL : ρ.length = L) (hi : i < L) (hρ : ∀ a, ρ.set i (.d (f a)) = ρ' a) (hr : ∀ a, SG G X Wx rest (ρ' a) En (k a))
    (h1 : (assignEach [tg] X.env).map (·.2) = [assign tg X.env] := by rfl) (hs : swapsWithSole [tg] e pos.line X.env = pure false := by rfl) (hw : swappedStores [tg] e X.env = pure none := by rfl) : SG G X Wx (.Assign [tg] e pos :: rest) ρ En (bnd m0 k) :=
  sg_stmt (s_asg h ht h1 hs hw) (by rw [hg]; rfl) (set_inj (lt_lit hL hi) inj) fun a => by rw [hρ]; exact hr a
/-- x = e, e known -/
theorem sg_asgP {tg e : Expr} {pos : Pos} {g : Env → W D} {d : D} {ρ' : Env} (i : Nat) (h : E G X Wx e g) (ht : PTg X tg (.nm i)) (hg : g ρ = ret d) (hρ : ρ.set i (.d d) = ρ') (hr : SG G X Wx rest ρ' En m)
    (h1 : (assignEach [tg] X.env).map (·.2) = [assign tg X.env] := by rfl) (hs : swapsWithSole [tg] e pos.line X.env = pure false := by rfl) (hw : swappedStores [tg] e X.env = pure none := by rfl) : SG G X Wx (.Assign [tg] e pos :: rest) ρ En m :=
  sg_stmt (m0 := ret ()) (e := fun _ => ρ.set i (.d d)) (k := fun _ => m) (s_asg h ht h1 hs hw) (by rw [hg]; rfl) (fun _ _ _ => rfl) fun _ => by rw [hρ]; exact hr
/-- x = [..] on one line -/
theorem sg_asgLc {α β : Type} {y : Str} {py spos : Pos} {elt tg iter : Expr} {ifs : List Expr} {scope : Scope} {own : List (Str × Nat)} {pos : Pos} {t : Tg} {gy : Env → W (List β)} {tt : List β → List D} {f : β → D} {gt : Env → W Bool} {ge : Env → W D} {mu : β → W α} {ee : α → Env → Env} {m0 : W (List D)} {k : List D → W γ} {ρ' : List D → Env} (i L : Nat) (htt : ∀ ys, tt ys = ys.map f) (hsT : ∀ x ρ, setT t (f x) ρ = bnd (mu x) fun a => ret (ee a ρ)) (hc : X.calm = true) (hN : X.N.Nodup) (hi : Wk G X Wx tg iter (fun ρ => bnd (gy ρ) fun ys => ret (tt ys))) (ok : BlkOk X.N X.env.scope scope own)
    (hg : ∀ (s : Shared) (H : Hp) (A : Addr) (cl : List (Str × Addr)) (fp : List Addr), PTg (X.blk s H scope (compEnvC scope cl A X.env) fp) tg t) (ht : ∀ (s : Shared) (H : Hp) (A : Addr) (cl : List (Str × Addr)) (fp : List Addr), Ts G (X.blk s H scope (compEnvC scope cl A X.env) fp) ifs gt)
    (he : ∀ (s : Shared) (H : Hp) (A : Addr) (cl : List (Str × Addr)) (fp : List Addr), E G (X.blk s H scope (compEnvC scope cl A X.env) fp) WF elt ge) (hm : bnd (gy ρ) (compM mu ee (own.map (·.2)) gt ge ρ) = m0) (hL : ρ.length = L) (hiL : i < L) (hρ : ∀ a, ρ.set i (.d (.lst a)) = ρ' a) (hr : ∀ a, SG G X Wx rest (ρ' a) En (k a)) (hy : X.N[i]? = some y := by rfl) (hyl : X.env.scope.names.lookup y = some .local := by rfl) (hix : ∀ i ∈ t.ix, i ∈ own.map (·.2) := by decide)
    (hk : X.env.scope.kind = .function := by rfl) (hln : (py.line == pos.line) = true := by rfl) (hsc : (scope.names.any fun (n, k) => n == y && (k == .local || k == .cell)) = false := by rfl) (hs : ∀ x, foldedSetIterable iter X.env x = pure x := by intro _; rfl) :
    SG G X Wx (.Assign [.Name y py] (.ListComp elt [⟨tg, iter, ifs, 0⟩] scope pos) spos :: rest) ρ En (bnd m0 k) :=
  sg_stmt (e := fun xs => ρ.set i (.d (.lst xs))) (s_asgLc i hc hN hi ok hg ht he hy hyl hix hk hln hsc hs) (by
    rw [← hm]
    show bnd (bnd (gy ρ) fun ys => few (tt ys) (grd (noOwn (own.map (·.2)) ρ = true) (quiet (compW t gt ge (wip (own.map (·.2)) ρ) (tt ys))))) _ = bnd (bnd (gy ρ) _) _
    congr 2
    funext xs
    exact compM_eq htt hsT _ _ _ _ _) (set_inj (f := .lst) (lt_lit hL hiL) fun _ _ h => D.lst.inj h) fun a => by rw [hρ]; exact hr a
/-- a, b = e -/
theorem sg_asg2 {tg e : Expr} {pos : Pos} {g : Env → W D} {α : Type} {m0 : W α} {f1 f2 : α → D} {k : α → W γ} {ρ' : α → Env} (i j L : Nat) (h : E G X Wx e g) (ht : PTg X tg (.tp [.nm i, .nm j])) (hg : bnd (g ρ) unp2 = bnd m0 fun a => ret (f1 a, f2 a)) (inj : ∀ a b, f1 a = f1 b → f2 a = f2 b → a = b) (hL : ρ.length = L) (hi : i < L) (hj : j < L) (hij : j ≠ i) (hρ : ∀ a, (ρ.set i (.d (f1 a))).set j (.d (f2 a)) = ρ' a) (hr : ∀ a, SG G X Wx rest (ρ' a) En (k a))
    (h1 : (assignEach [tg] X.env).map (·.2) = [assign tg X.env] := by rfl) (hs : swapsWithSole [tg] e pos.line X.env = pure false := by rfl) (hw : swappedStores [tg] e X.env = pure none := by rfl) : SG G X Wx (.Assign [tg] e pos :: rest) ρ En (bnd m0 k) :=
  sg_stmt (e := fun a => (ρ.set i (.d (f1 a))).set j (.d (f2 a))) (s_asg h ht h1 hs hw) (by
    have q : (fun d => bnd (setT (.tp [.nm i, .nm j]) d ρ) fun ρ' => ret (Out.nx ρ')) = fun d => bnd (unp2 d) fun p => ret (.nx ((ρ.set i (.d p.1)).set j (.d p.2))) := by
      funext d
      rw [setT_tp2]
      rfl
    rw [q, ← bnd_bnd, hg]
    rfl) (fun a b hab => by
    have q := congrArg (·[j]?) hab
    simp only [List.getElem?_set_self (show j < (ρ.set i (SV.d (f1 a))).length by simp [hL, hj]), List.getElem?_set_self (show j < (ρ.set i (SV.d (f1 b))).length by simp [hL, hj])] at q
    have q2 := congrArg (·[i]?) hab
    simp only [List.getElem?_set_ne hij, List.getElem?_set_self (show i < ρ.length by rw [hL]; exact hi)] at q2
    exact inj a b (SV.d.inj (Option.some.inj q2)) (SV.d.inj (Option.some.inj q))) fun a => by rw [hρ]; exact hr a
/-- x = [..], of one's own -/
theorem sg_own {x : Str} {px pos : Pos} {e : Expr} {g : Env → W (List D)} {m0 : W (List D)} {k : List D → W γ} {ρ' : List D → Env} (i L : Nat) (h : EO G X Wx e g) (hN : X.N.Nodup) (hg : g ρ = m0) (hL : ρ.length = L) (hiL : i < L) (hρ : ∀ a, ρ.set i (.own a) = ρ' a) (hr : ∀ a, SG G X Wx rest (ρ' a) En (k a)) (hi : X.N[i]? = some x := by rfl) (hx : Loc X.env.scope x := by first | exact Or.inl rfl | exact Or.inr rfl) (hf : X.fn x = true ∨ X.env.scope.names.lookup x = some .local := by first | exact .inl rfl | exact .inr rfl)
    (hs : swapsWithSole [.Name x px] e pos.line X.env = pure false := by rfl) (hw : swappedStores [.Name x px] e X.env = pure none := by rfl) : SG G X Wx (.Assign [.Name x px] e pos :: rest) ρ En (bnd m0 k) :=
  sg_stmt (s_own i h hN hi hx hf hs hw) (by rw [hg]) (own_inj (f := fun a => a) (lt_lit hL hiL) fun _ _ h => h) fun a => by rw [hρ]; exact hr a
theorem sg_ownP {x : Str} {px pos : Pos} {e : Expr} {g : Env → W (List D)} {d : List D} {ρ' : Env} (i : Nat) (h : EO G X Wx e g) (hN : X.N.Nodup) (hg : g ρ = ret d) (hρ : ρ.set i (.own d) = ρ') (hr : SG G X Wx rest ρ' En m) (hi : X.N[i]? = some x := by rfl) (hx : Loc X.env.scope x := by first | exact Or.inl rfl | exact Or.inr rfl) (hf : X.fn x = true ∨ X.env.scope.names.lookup x = some .local := by first | exact .inl rfl | exact .inr rfl)
    (hs : swapsWithSole [.Name x px] e pos.line X.env = pure false := by rfl) (hw : swappedStores [.Name x px] e X.env = pure none := by rfl) : SG G X Wx (.Assign [.Name x px] e pos :: rest) ρ En m :=
  sg_stmt (m0 := ret ()) (e := fun _ => ρ.set i (.own d)) (k := fun _ => m) (s_own i h hN hi hx hf hs hw) (by rw [hg]; rfl) (fun _ _ _ => rfl) fun _ => by rw [hρ]; exact hr
/-- xs.append(e) -/
def roomL {α : Type} (xs : List D) (m : W α) : W α := grd (xs.length < sizeLine) m
theorem app_inj {α : Type} {f : α → D} {xs : List D} (inj : ∀ a b, f a = f b → a = b) (a b : α) (h : xs ++ [f a] = xs ++ [f b]) : a = b := inj a b (by
  have q := List.append_cancel_left h
  exact (List.cons.inj q).1)
theorem sg_app {x : Str} {px pa pc pos : Pos} {e : Expr} {g : Env → W D} {α : Type} {m0 : W α} {f : α → D} {k : α → W γ} {ρ' : α → Env} {xs : List D} (i L : Nat) (h : E G X Wx e g) (hx : ρ[i]? = some (.own xs)) (hg : g ρ = bnd m0 fun a => ret (f a)) (inj : ∀ a b, f a = f b → a = b) (hL : ρ.length = L) (hi : i < L) (hρ : ∀ a, ρ.set i (.own (xs ++ [f a])) = ρ' a) (hr : ∀ a, SG G X Wx rest (ρ' a) En (k a))
    (hN : X.N[i]? = some x := by rfl) (hv : Vis X.env.scope x := by first | exact Or.inl rfl | exact Or.inr (Or.inl rfl) | exact Or.inr (Or.inr rfl)) (hd : (x == ("__debug__" : Str)) = false := by decide)
    (hcd : (x == ("__classdict__" : Str)) = false := by decide) (hst : starEach [e] X.env = (false, eval e X.env) :: starEach [] X.env := by rfl)
    (hbase : attributeBase (.Name x px) "append" X.env (eval (.Name x px) X.env) = eval (.Name x px) X.env := by rfl)
    (hfew : ((backTo pc (starEach [e] X.env)).all (fun x => !x.1) && (backToKw pc (keywordEach [] X.env)).all (fun x => x.1.isSome)
      && decide (([e] : List Expr).length + ([] : List Keyword).length + (if ([] : List Keyword).isEmpty then 0 else 1) < 30)) = true := by rfl)
    (hline : (pa.endLine == pc.line) = true := by rfl) (hplain : (backTo pc (starEach [] X.env)).any (·.1) = false := by rfl) (hs : swapsWith (.Call (.Attribute (.Name x px) "append" pa) [e] [] pc) none pos.line X.env = pure false := by rfl) :
    SG G X Wx (.Expr (.Call (.Attribute (.Name x px) "append" pa) [e] [] pc) pos :: rest) ρ En (bnd m0 fun a => roomL xs (k a)) :=
  sg_eq (sg_stmt (m0 := bnd m0 fun a => roomL xs (ret a)) (e := fun a => ρ.set i (.own (xs ++ [f a]))) (k := k) (s_app i h hN hv hd hcd hst hbase hfew hline hplain hs) (by
    unfold ownAt
    rw [hx, hg]
    rfl) (own_inj (f := fun a => xs ++ [f a]) (lt_lit hL hi) (app_inj inj)) fun a => by rw [hρ]; exact hr a) rfl
end
end PL

/-! t[::-1] of a tuple or a list. -/
namespace PL
open PySem PySem.Spec L2 PyProof.Rows

section
variable {prog : Program} {w : World} {A : Around} {E : Value → Shared → Prop} {s : Shared}
end
section
variable {G : PenK} {X : Cx} {Wx : WX}
end
end PL

/-! Dicts of one's own, their keys; sorted texts; repeated lists. -/
namespace PL
open PySem PySem.Spec L2 PyProof.Rows

/-! ### pairs by key -/
def valD (kvs : List (Key × D)) (k : Key) : Option D := (kvs.find? fun kv => decide (kv.1 = k)).map (·.2)
def putD (kvs : List (Key × D)) (k : Key) (v : D) : List (Key × D) :=
  if (kvs.any fun kv => decide (kv.1 = k)) = true then kvs.map (fun kv => if kv.1 = k then (kv.1, v) else kv) else kvs ++ [(k, v)]
def keyV : Key → D
  | .inl i => .int i
  | .inr s => .str s
section
variable {K : PySem.W.Frag} {S : Addr → Prop} {H : Hp}
theorem RepK.any : ∀ {kvs : List (Key × D)} {kws : List (Key × V)} (k : Key), RepK K S H kvs kws → (kvs.any fun kv => decide (kv.1 = k)) = kws.any fun kv => decide (kv.1 = k)
  | [], _, k, h => by
    have e : _ = [] := h
    rw [e]
    rfl
  | (j, x) :: xs, _, k, h => by
    obtain ⟨v, ws, rfl, r, q⟩ := h
    rw [List.any_cons, List.any_cons, RepK.any k q]
def setK1 {α : Type} (k : Key) (x : α) : List (Key × α) → List (Key × α)
  | [] => []
  | (j, y) :: r => (if j = k then (j, x) else (j, y)) :: setK1 k x r
theorem setK1_eq {α : Type} (k : Key) (x : α) : ∀ l : List (Key × α), l.map (fun kv => if kv.1 = k then (kv.1, x) else kv) = setK1 k x l
  | [] => rfl
  | (j, y) :: r => by
    rw [List.map_cons, setK1_eq k x r]
    rfl
theorem RepK.mapP : ∀ {kvs : List (Key × D)} {kws : List (Key × V)} (k : Key) {x : D} {v : V}, RepK K S H kvs kws → Rep K S H x v → RepK K S H (setK1 k x kvs) (setK1 k v kws)
  | [], _, k, x, v, h, _ => by
    have e : _ = [] := h
    rw [e]
    rfl
  | (j, y) :: xs, _, k, x, v, h, rx => by
    obtain ⟨w, ws, rfl, r, q⟩ := h
    have ih := RepK.mapP k q rx
    unfold setK1
    by_cases e : j = k
    · rw [if_pos e, if_pos e]
      exact ⟨v, _, rfl, rx, ih⟩
    · rw [if_neg e, if_neg e]
      exact ⟨w, _, rfl, r, ih⟩
theorem RepK.app : ∀ {xs ys : List (Key × D)} {vs ws : List (Key × V)}, RepK K S H xs vs → RepK K S H ys ws → RepK K S H (xs ++ ys) (vs ++ ws)
  | [], ys, vs, ws, h, q => by
    have e : vs = [] := h
    rw [e]
    exact q
  | (k, x) :: xs, ys, vs, ws, h, q => by
    obtain ⟨v, us, rfl, r, t⟩ := h
    exact ⟨v, us ++ ws, rfl, r, RepK.app t q⟩
theorem RepK.put {kvs : List (Key × D)} {kws : List (Key × V)} (k : Key) {x : D} {v : V} (h : RepK K S H kvs kws) (r : Rep K S H x v) : RepK K S H (putD kvs k x) (putK kws k v) := by
  unfold putD putK
  rw [RepK.any k h]
  split
  · rw [setK1_eq, setK1_eq]
    exact RepK.mapP k h r
  · exact RepK.app h ⟨v, [], rfl, r, rfl⟩
theorem RepK.keys : ∀ {kvs : List (Key × D)} {kws : List (Key × V)}, RepK K S H kvs kws → (∀ kv ∈ kvs, ∀ s, kv.1 = .inr s → s.length ≤ sizeLine) → Reps K S H (kvs.map fun kv => keyV kv.1) (kws.map fun kv => kV kv.1)
  | [], _, h, _ => by
    have e : _ = [] := h
    rw [e]
    exact Reps.nil
  | (k, x) :: xs, _, h, hz => by
    obtain ⟨v, ws, rfl, r, q⟩ := h
    refine Reps.cons ?_ (RepK.keys q fun kv hk => hz kv (List.mem_cons_of_mem _ hk))
    cases k with
    | inl i => exact rfl
    | inr s => exact ⟨rfl, hz _ List.mem_cons_self s rfl⟩
end

/-! ### a name takes a new dict; a dict of one's own is changed -/
section
variable {G : PenK} {K : PySem.W.Frag} {c : C} {σ : L2.St} {ρ : Env} {H H' : Hp} {n k : Nt} {S' : Addr → Prop}
/-- a new object, at nobody's hands -/
theorem SI.bare {a : Addr} {o : HO} (I : SI G K c σ H ρ n) (hp : H a = none) : SI G K c σ (upd H a o) ρ n ∧ Grow c.S c.S H (upd H a o) ∧ FreshAt c n σ ρ a := by
  have ne : ∀ b, H b ≠ none → b ≠ a := fun b q e => q (e ▸ hp)
  have g : Grow c.S c.S H (upd H a o) := ⟨fun _ q => q, fun b q => upd_ne (ne b (I.dom b q))⟩
  refine ⟨⟨I.len, fun i sv e => (I.slots i sv e).grow g fun b eb ho => upd_ne (ne b (I.own_there ⟨i, sv, e, ho, eb⟩)), I.own, I.apart, fun b q => by rw [upd_ne (ne b (I.dom b q))]; exact I.dom b q,
    fun b u e q => by
      have := I.fr b u e q
      rw [upd_ne (ne b (by rw [this]; exact fun z => nomatch z))]
      exact this, fun q e => by
      obtain ⟨h1, h2, h3, h4, h5⟩ := I.pen q e
      obtain ⟨k1, k2⟩ := G.there h1
      exact ⟨G.dep h1 (upd_ne (ne _ k1)) (upd_ne (ne _ k2)), h2, h3, h4, h5⟩, I.no, fun q e => ⟨(I.tab q e).1, (I.tab q e).2.grow g (upd_ne (ne _ (I.tabN e).2.2))⟩, fun b nd e => ⟨(I.mu b nd e).1.grow g (upd_ne (ne _ (I.mu b nd e).1.there)), (I.mu b nd e).2⟩, I.mu0, I.mz⟩, g, ⟨⟨fun q => I.dom a q hp, I.freeOld hp, I.freeM hp⟩, fun i sv e ho es => I.own_there ⟨i, sv, e, ho, es⟩ hp⟩⟩
end

/-! ### expressions that give a new dict -/
section
variable (G : PenK) (X : Cx) (Wx : WX)
def GlK (c : C) (σ : L2.St) (ρ : Env) (H : Hp) (P : List (Key × D) → Nt → Prop) (Q : VK) : Prop :=
  ∀ xs k a vs S' H', P xs k → Grow c.S S' H H' → SI G X.K (c.to S') σ H' ρ k → H' a = some (.dK vs) → RepK X.K S' H' xs vs → FreshAt (c.to S') k σ ρ a → Q (.ref a) H'
def tKd (g : Env → W (List (Key × D))) : TE := fun σ H Q => ∃ c ρ n P PX, SI G X.K c σ H ρ n ∧ g ρ n P PX ∧ GlK G X c σ ρ H P Q ∧ OKx G X Wx c σ ρ H PX
def EK (e : Expr) (g : Env → W (List (Key × D))) : Prop := PE X e (tKd G X Wx g)
end
section
variable {G : PenK} {X : Cx} {Wx : WX} {γ : Type} {En : Enz γ} {ρ : Env} {rest : List Stmt} {m : W γ}
theorem EK.e {e : Expr} {g : Env → W (List (Key × D))} (h : EK G X Wx e g) : E G X Wx e (fun ρ => bnd (g ρ) fun xs => ret (.dic xs)) :=
  weakE h fun σ H Q ⟨c, ρ, n, P, PX, I, q, hg, hx⟩ => ⟨c, ρ, n, fun xs k => P (.dic xs) k, PX, I, q, fun xs k a vs S' H' p g I' e r f => by
    obtain ⟨I2, g2⟩ := I'.adopt f (by rw [e]; exact fun z => nomatch z)
    exact hg (.dic xs) k (.ref a) _ H' p (g.trans g2) I2 ⟨a, vs, rfl, ⟨.inr rfl, .inl e⟩, RepK.grow g2 _ _ r⟩, hx⟩
/-! ### reading dicts -/
def optW {α : Type} : Option α → W α
  | some a => ret a
  | none => stuck
theorem optW_inv {α : Type} {o : Option α} {n : Nt} {P : α → Nt → Prop} {PX : Exc → Nt → Prop} (h : optW o n P PX) : ∃ a, o = some a ∧ P a n := by
  cases o with
  | some a => exact ⟨a, rfl, h⟩
  | none => exact False.elim h
/-! ### sorted texts -/
def leS (a b : Str) : Bool := !ltCps b.cps.toList a.cps.toList
def sortT (xs : List Str) : List Str := xs.mergeSort leS
theorem str_ext {a b : Str} (h : a.cps.toList = b.cps.toList) : a = b := by
  cases a; cases b
  congr 1
  exact Array.toList_inj.mp h
theorem reps_strs {K : PySem.W.Frag} {S : Addr → Prop} {H : Hp} : ∀ {ss : List Str}, (∀ s ∈ ss, s.length ≤ sizeLine) → Reps K S H (ss.map .str) (ss.map .str)
  | [], _ => Reps.nil
  | s :: ss, h => Reps.cons ⟨rfl, h s List.mem_cons_self⟩ (reps_strs fun t ht => h t (List.mem_cons_of_mem _ ht))
/-! ### xs * k -/
def repL (xs : List D) (k : Int) : List D := (List.replicate k.toNat xs).flatten
def repD : D → D → W D
  | .lst xs, .int k => grd (-(2 ^ 63) ≤ k ∧ k < 2 ^ 63 ∧ xs.length * k.toNat ≤ sizeLine) (ret (.lst (repL xs k)))
  | .tup xs, .int k => grd (xs ≠ [] ∧ 2 ≤ k ∧ k ≤ 1000 ∧ xs.length ≤ 1000) (ret (.tup (repL xs k)))
  | _, _ => stuck
theorem repL_len (xs : List D) (k : Int) : (repL xs k).length = xs.length * k.toNat := by
  unfold repL
  rw [List.length_flatten, List.map_replicate, List.sum_replicate_nat, Nat.mul_comm]
theorem Reps.rep {K : PySem.W.Frag} {S : Addr → Prop} {H : Hp} {xs : List D} {vs : List V} (h : Reps K S H xs vs) : ∀ n : Nat, Reps K S H (List.replicate n xs).flatten (List.replicate n vs).flatten
  | 0 => Reps.nil
  | n + 1 => by
    rw [List.replicate_succ, List.replicate_succ, List.flatten_cons, List.flatten_cons]
    exact Reps.app h (Reps.rep h n)
def rRepZ (K : PySem.W.Frag) : R2 := fun x y H Q => ∃ l k xs, x = .ref l ∧ y = .int k ∧ SqT K H l xs ∧ xs ≠ [] ∧ 2 ≤ k ∧ k ≤ 1000 ∧ xs.length ≤ 1000 ∧ NewT H (List.replicate k.toNat xs).flatten Q
theorem op_repZ : OpR X (binaryOp .Mult) (rRepZ X.K) := by
  intro pins s σ H x y v u Q I rx ry h
  obtain ⟨l, k, xs, rfl, rfl, hT, hne, h1, h2, hz, q⟩ := h
  cases rx
  obtain ⟨t, rfl⟩ := ry
  obtain ⟨its, r, ⟨⟨cls, dd, data, sl⟩, ho, hc, n, hd⟩, hs⟩ := I.tuple hT
  simp only at hc hd
  subst hc hd
  have hle : its.length = xs.length := r.length.symm
  have hn : its ≠ [] := fun e => hne (by
    rw [e] at hle
    exact List.eq_nil_of_length_eq_zero hle.symm)
  have hi : its.toArray.isEmpty = false := by
    cases its with
    | nil => exact absurd rfl hn
    | cons a b => rfl
  have hsz0 : its.toArray.size = xs.length := by rw [List.size_toArray, hle]
  have hm : ((its.toArray.size : Nat) : Int) * k ≤ 1000000 := by
    rw [hsz0]
    have a1 : ((xs.length : Nat) : Int) * k ≤ 1000 * k := Int.mul_le_mul_of_nonneg_right (by omega) (by omega)
    omega
  have flen : (List.replicate k.toNat its).flatten.length ≤ sizeLine := by
    rw [PyProof.Rows.lm_len_rep_flat, hle, sizeLine_eq]
    have a1 : k.toNat * xs.length ≤ 1000 * 1000 := Nat.mul_le_mul (by omega) hz
    omega
  have c0 : (decide (k < -(2 ^ 63)) || decide (k ≥ 2 ^ 63)) = false := by
    rw [decide_eq_false (by omega), decide_eq_false (by omega)] <;> rfl
  have c1 : (its.toArray.isEmpty || k == 1) = false := by
    rw [hi, Bool.false_or]
    exact beq_eq_false_iff_ne.mpr (by omega)
  have c2 : (decide (k ≤ 0) || its.toArray.isEmpty) = false := by
    rw [hi, Bool.or_false]
    exact decide_eq_false (by omega)
  have c4 : Builtin.Tuple.tupleTooMany (((its.toArray.size : Nat) : Int) * k) = false := by
    unfold Builtin.Tuple.tupleTooMany
    rw [sizeLine_eq]
    exact decide_eq_false (by omega)
  refine wpAny_binaryOp_repeat_ref (T := "tuple") (U := "int") (by decide) ⟨_, ho, rfl⟩ (fun s' => typeIs_int s' k t) noFill_tuple_mul F.fills_int_mul F.slot_int_rmul repeat_tuple F.slot_int_index.lookup
    (call_meets F.slot_int_rmul (typeIs_int s k t) F.entry_int_rmul (F.args_int_rmul_2 _ _) (int_rmul_tuple k t l its.toArray n dd sl)
      ⟨ho, rfl, ⟨_, ho, rfl⟩, call_meets F.slot_tuple_mul ⟨_, ho, rfl⟩ F.entry_tuple_mul (F.args_tuple_mul_2 _ _) (tuple_mulW l its.toArray n dd sl k t c0 c1 c2 (by omega) c4 (by rw [size_rep, List.size_toArray]; exact flen)) ⟨ho, ?_⟩⟩)
  rw [size_rep]
  exact newT I (r.rep k.toNat) (by rw [PyProof.Rows.lm_len_rep_flat, sizeLine_eq]; have a1 : k.toNat * xs.length ≤ 1000 * 1000 := Nat.mul_le_mul (by omega) hz; omega) q
theorem e_rep {a b : Expr} {pos : Pos} {ga gb : Env → W D} (ha : E G X Wx a ga) (hb : E G X Wx b gb) : E G X Wx (.BinOp a .Mult b pos) (fun ρ => bnd (ga ρ) fun x => bnd (gb ρ) fun y => repD x y) :=
  e_op (op_rep.or op_repZ) (by
    intro c σ ρ H n P PX d e v w Q I rd re h hg hx
    cases d with
    | lst xs =>
      cases e with
      | int k =>
        cases re
        obtain ⟨⟨z1, z2, z3⟩, h⟩ := h
        obtain ⟨a, vs, rfl, r1, z, q1⟩ := rd
        exact .inl ⟨a, k, vs, rfl, rfl, r1.2, z1, z2, by rw [q1.len]; exact z3, fun p hp => hg.new h I hp fun g => ⟨p, _, rfl, ⟨.inr rfl, upd_same⟩, by rw [repL_len]; exact z3, Reps.grow g _ _ (q1.rep _)⟩⟩
      | _ => exact False.elim h
    | tup xs =>
      cases e with
      | int k =>
        cases re
        obtain ⟨⟨z0, z1, z2, z3⟩, h⟩ := h
        obtain ⟨a, vs, rfl, r1, z, q1⟩ := rd
        have hl := q1.len
        refine .inr ⟨a, k, vs, rfl, rfl, r1.sq, fun e => z0 (List.eq_nil_of_length_eq_zero (by rw [← hl, e]; rfl)), z1, z2, by rw [hl]; exact z3, fun p o hp hd => hg.new h I hp fun g => ⟨p, _, rfl, .inl ⟨.inr rfl, o, upd_same, hd⟩, ?_, Reps.grow g _ _ (q1.rep _)⟩⟩
        rw [repL_len, sizeLine_eq]
        have : k.toNat ≤ 1000 := by omega
        calc xs.length * k.toNat ≤ 1000 * 1000 := Nat.mul_le_mul z3 this
          _ ≤ _ := by decide
      | _ => exact False.elim h
    | _ => cases e <;> exact False.elim h) ha hb
/-- xs.append(e), e known -/
theorem sg_appP {x : Str} {px pa pc pos : Pos} {e : Expr} {g : Env → W D} {d : D} {ρ' : Env} {xs : List D} (i L : Nat) (h : E G X Wx e g) (hx : ρ[i]? = some (.own xs)) (hg : g ρ = ret d) (hL : ρ.length = L) (hi : i < L) (hρ : ρ.set i (.own (xs ++ [d])) = ρ') (hr : SG G X Wx rest ρ' En m)
    (hN : X.N[i]? = some x := by rfl) (hv : Vis X.env.scope x := by first | exact Or.inl rfl | exact Or.inr (Or.inl rfl) | exact Or.inr (Or.inr rfl)) (hd : (x == ("__debug__" : Str)) = false := by decide)
    (hcd : (x == ("__classdict__" : Str)) = false := by decide) (hst : starEach [e] X.env = (false, eval e X.env) :: starEach [] X.env := by rfl)
    (hbase : attributeBase (.Name x px) "append" X.env (eval (.Name x px) X.env) = eval (.Name x px) X.env := by rfl)
    (hfew : ((backTo pc (starEach [e] X.env)).all (fun x => !x.1) && (backToKw pc (keywordEach [] X.env)).all (fun x => x.1.isSome)
      && decide (([e] : List Expr).length + ([] : List Keyword).length + (if ([] : List Keyword).isEmpty then 0 else 1) < 30)) = true := by rfl)
    (hline : (pa.endLine == pc.line) = true := by rfl) (hplain : (backTo pc (starEach [] X.env)).any (·.1) = false := by rfl) (hs : swapsWith (.Call (.Attribute (.Name x px) "append" pa) [e] [] pc) none pos.line X.env = pure false := by rfl) :
    SG G X Wx (.Expr (.Call (.Attribute (.Name x px) "append" pa) [e] [] pc) pos :: rest) ρ En (roomL xs m) :=
  sg_eq (sg_stmt (m0 := roomL xs (ret ())) (e := fun _ => ρ.set i (.own (xs ++ [d]))) (k := fun _ => m) (s_app i h hN hv hd hcd hst hbase hfew hline hplain hs) (by
    unfold ownAt
    rw [hx, hg]
    rfl) (fun _ _ _ => rfl) fun _ => by rw [hρ]; exact hr) rfl
theorem u1 {A : Around} {k : Nat} (r : Room k A) : A.units + 1 < cLine := by
  have := u64 r
  omega
/-- a list of one's own is given up -/
theorem sg_frz {ss : List Stmt} {ρ' : Env} (i : Nat) (hρ : PL.frz i ρ = ρ') (h : SG G X Wx ss ρ' En m) : SG G X Wx ss ρ En m :=
  weakSs h fun Dn σ H ⟨c, n, P, PX, I, q, hg, hx⟩ => by
    obtain ⟨S', I2, g2⟩ := I.frz i
    rw [hρ] at I2
    exact ⟨_, n, P, PX, I2, q, hg.grow g2, hx.grow g2⟩
end
end PL

/-! The plain side of mirrors by values: rows for simp, what draws give, sizes of what is shown. -/
namespace PL
open PySem PySem.Spec L2
section
variable {α β γ J : Type}
theorem Gen.bind {m : W α} {f : α → W β} {c d : Nat} {R : α → Prop} {Q : β → Prop} (h : Gen m c R) (k : ∀ a, R a → Gen (f a) d Q) : Gen (PL.bnd m f) (c + d) Q := Gen.bnd h k
theorem Gen.dr {b : Int} {f : Int → W β} {c : Nat} {Q : β → Prop} (h0 : 0 < b) (h1 : b < 1073741824) (k : ∀ r : Int, 0 ≤ r → r < b → Gen (f r) c Q) : Gen (PL.bnd (drw b) f) (1 + c) Q := fun n P PX hn kk =>
  ⟨by omega, h0, h1, fun r j q1 q2 q3 q4 => k r q1 q2 ⟨j, n.μ⟩ P PX (by show j + c ≤ _; omega) fun a i hq h3 h4 => kk a i hq (Nat.le_trans q3 h3) (by have h4 : i ≤ j + c := h4; omega)⟩
theorem Gen.dr0 {b : Int} {c : Nat} {Q : Int → Prop} (h0 : 0 < b) (h1 : b < 1073741824) (k : ∀ r : Int, 0 ≤ r → r < b → Q r) : Gen (drw b) 1 Q := fun n P PX hn kk =>
  ⟨by omega, h0, h1, fun r j q1 q2 q3 q4 => kk r j (k r q1 q2) q3 (by omega)⟩
theorem Gen.cond {b : Bool} {m m' : W α} {c d : Nat} {Q : α → Prop} (h1 : b = true → Gen m c Q) (h2 : b = false → Gen m' d Q) : Gen (if b = true then m else m') (Nat.max c d) Q := by
  cases b with
  | true => exact (h1 rfl).up (Nat.le_max_left _ _)
  | false => exact (h2 rfl).up (Nat.le_max_right _ _)
theorem Gen.is {m : W α} {a : α} {Q : α → Prop} (e : m = PL.ret a) (q : Q a) : Gen m 0 Q := e ▸ Gen.ret q
theorem Gen.room {xs : List D} {m : W α} {c : Nat} {Q : α → Prop} (h : xs.length < 1000000) (k : Gen m c Q) : Gen (roomL xs m) c Q := Gen.grd (by rw [sizeLine_eq]; omega) k
theorem room_pos {xs : List D} {m : W α} (h : xs.length < 1000000) : roomL xs m = m := grd_pos (by rw [sizeLine_eq]; omega) m
theorem fewN_pos {n : Nat} {m : W α} (h : n ≤ 1000000) : fewN n m = m := grd_pos (by rw [sizeLine_eq]; omega) m
theorem Gen.compP {f : α → W (Option D)} {c : Nat} {Q : D → Prop} : ∀ {xs : List α}, (∀ x ∈ xs, Gen (f x) c fun o => ∀ y, o = some y → Q y) → Gen (PL.compP f xs) (c * xs.length) fun ys => ys.length ≤ xs.length ∧ ∀ y ∈ ys, Q y
  | [], _ => Gen.ret ⟨Nat.le_refl _, fun _ h => nomatch h⟩
  | x :: xs, h => by
    have ih := Gen.compP (xs := xs) fun y hy => h y (List.mem_cons_of_mem _ hy)
    refine (Gen.bnd (h x List.mem_cons_self) (d := c * xs.length) fun o ho => ?_).up (by rw [List.length_cons, Nat.mul_add]; omega)
    cases o with
    | none => exact ih.to fun ys q => ⟨Nat.le_succ_of_le q.1, q.2⟩
    | some y =>
      refine (Gen.bnd (d := 0) ih fun (ys : List D) q => Gen.ret (a := y :: ys) (Q := fun ys : List D => ys.length ≤ (x :: xs).length ∧ ∀ y ∈ ys, Q y) ⟨Nat.succ_le_succ q.1, fun z hz => ?_⟩).up (Nat.le_refl _)
      rcases List.mem_cons.mp hz with rfl | hz
      · exact ho z rfl
      · exact q.2 z hz
theorem Gen.compM {f : α → W D} {c : Nat} {Q : D → Prop} : ∀ {xs : List α}, (∀ x ∈ xs, Gen (f x) c Q) → Gen (PL.compP (fun x => PL.bnd (f x) fun y => PL.ret (some y)) xs) (c * xs.length) fun ys => ys.length = xs.length ∧ ∀ y ∈ ys, Q y
  | [], _ => Gen.ret ⟨rfl, fun _ h => nomatch h⟩
  | x :: xs, h => by
    have ih := Gen.compM (xs := xs) fun y hy => h y (List.mem_cons_of_mem _ hy)
    show Gen (PL.bnd (PL.bnd (f x) _) _) _ _
    rw [bnd_bnd]
    refine (Gen.bnd (h x List.mem_cons_self) (d := c * xs.length) fun y hy => ?_).up (by rw [List.length_cons, Nat.mul_add]; omega)
    rw [bnd_ret]
    refine (Gen.bnd (d := 0) ih fun ys q => Gen.ret (Q := fun ys : List D => ys.length = (x :: xs).length ∧ ∀ y ∈ ys, Q y) ⟨by rw [List.length_cons, q.1, List.length_cons], fun z hz => ?_⟩).up (Nat.le_refl _)
    rcases List.mem_cons.mp hz with rfl | hz
    · exact hy
    · exact q.2 z hz
theorem Gen.map {f : α → W D} {xs : List α} {c : Nat} {Q : D → Prop} (n : Nat) (hn : xs.length ≤ n) (h : ∀ x ∈ xs, Gen (f x) c Q) (hz : n ≤ 1000000 := by decide) : Gen (mapP f xs) (c * n) fun ys => ys.length = xs.length ∧ ∀ y ∈ ys, Q y := by
  unfold mapP
  rw [fewN_pos (by omega)]
  exact Gen.quiet ((Gen.compM h).up (Nat.mul_le_mul_left _ hn))
/-- a loop with an invariant that may count the turns -/
theorem Gen.forI {bd : α → J → W (Step J γ)} {k : J → W γ} {c d n : Nat} {I : Nat → J → Prop} {Q : γ → Prop} : ∀ {xs : List α} {i : Nat} {j : J}, xs.length + i ≤ n → (∀ x ∈ xs, ∀ i j, i < n → I i j → Gen (bd x j) c fun o => match o with | .go j' => I (i + 1) j' | .bk j' => Gen (k j') d Q | .out g => Q g) →
    (∀ j, I (xs.length + i) j → Gen (k j) d Q) → I i j → Gen (forT bd k xs j) (c * xs.length + d) Q
  | [], i, j, _, _, hk, h0 => (hk j (by rw [List.length_nil, Nat.zero_add]; exact h0)).up (by omega)
  | x :: xs, i, j, hn, hb, hk, h0 => by
    rw [List.length_cons] at hn
    refine (Gen.bnd (hb x List.mem_cons_self i j (by omega) h0) (d := c * xs.length + d) fun o q => ?_).up (by rw [List.length_cons, Nat.mul_add]; omega)
    cases o with
    | go j' => exact Gen.forI (i := i + 1) (by omega) (fun y hy => hb y (List.mem_cons_of_mem _ hy)) (fun j hj => hk j (by rw [List.length_cons, show xs.length + 1 + i = xs.length + (i + 1) by omega]; exact hj)) q
    | bk j' => exact Gen.up (show Gen (k j') d Q from q) (by omega)
    | out g => exact (Gen.ret (show Q g from q)).up (Nat.zero_le _)
theorem Gen.forS {bd : α → J → W (Step J γ)} {k : J → W γ} {c d : Nat} {xs : List α} {j : J} (n : Nat) (I : J → Prop) {Q : γ → Prop} (hn : xs.length ≤ n) (h0 : I j) (hb : ∀ x ∈ xs, ∀ j, I j → Gen (bd x j) c fun o => match o with | .go j' => I j' | .bk j' => Gen (k j') d Q | .out g => Q g)
    (hk : ∀ j, I j → Gen (k j) d Q) : Gen (forT bd k xs j) (c * n + d) Q :=
  (Gen.forI (I := fun _ => I) (i := 0) (n := n) (by omega) (fun x hx _ j _ => hb x hx j) (fun j => hk j) h0).up (by have := Nat.mul_le_mul_left c hn; omega)
/-- [f(x) for x in xs], f known -/
theorem compP_ret {f : α → W (Option D)} {g : α → Option D} : ∀ {xs : List α}, (∀ x ∈ xs, f x = PL.ret (g x)) → PL.compP f xs = PL.ret (xs.filterMap g)
  | [], _ => rfl
  | x :: xs, h => by
    have ih := compP_ret (xs := xs) fun y hy => h y (List.mem_cons_of_mem _ hy)
    show PL.bnd (f x) _ = _
    rw [h x List.mem_cons_self, bnd_ret, List.filterMap_cons]
    cases q : g x with
    | none => exact ih
    | some y =>
      show PL.bnd (PL.compP f xs) _ = _
      rw [ih]
      rfl
theorem mapP_ret {f : α → W D} {g : α → D} {xs : List α} (hn : xs.length ≤ 1000000) (h : ∀ x ∈ xs, f x = PL.ret (g x)) : mapP f xs = PL.ret (xs.map g) := by
  unfold mapP
  rw [fewN_pos hn, compP_ret (g := fun x => some (g x)) fun x hx => by rw [h x hx]; rfl, List.filterMap_eq_map']
  rfl
theorem selP_ret {t : α → W Bool} {f : α → W D} {p : α → Bool} {g : α → D} {xs : List α} (hn : xs.length ≤ 1000000) (ht : ∀ x ∈ xs, t x = PL.ret (p x)) (h : ∀ x ∈ xs, p x = true → f x = PL.ret (g x)) : selP t f xs = PL.ret ((xs.filter p).map g) := by
  unfold selP
  have e : ∀ ys : List α, ys.filterMap (fun x => if p x = true then some (g x) else none) = (ys.filter p).map g := fun ys => by
    induction ys with
    | nil => rfl
    | cons y ys ih =>
      rw [List.filterMap_cons]
      cases q : p y with
      | true => simp [q, ih]
      | false => simp [q, ih]
  rw [fewN_pos hn, compP_ret (g := fun x => if p x = true then some (g x) else none) fun x hx => by
    rw [ht x hx, bnd_ret]
    cases q : p x with
    | true => rw [if_pos rfl, h x hx q]; rfl
    | false => rfl, e]
  rfl
theorem rngZ_len (lo : Int) (n : Nat) : (rngZ lo n).length = n := by unfold rngZ; rw [List.length_map, List.length_range]
theorem rngI_ret {i : Int} (h : -1000000 ≤ i ∧ i ≤ 1000000) : rngI i = PL.ret (rngZ 0 i.toNat) := grd_pos (by unfold inR; omega) _
end
/-! ### rows -/
theorem eqB_str (a b : Str) : eqB (.str a) (.str b) = PL.ret (a == b) := by
  unfold eqB
  rw [grd_pos (.inr (.inr rfl))]
  simp [py, PyData.eqv]
theorem neB_str (a b : Str) : neB (.str a) (.str b) = PL.ret (!(a == b)) := by
  unfold neB
  rw [grd_pos (.inr (.inr rfl))]
  simp [py, PyData.eqv]
theorem eqB_nil {xs : List D} : eqB (.lst xs) (.lst []) = PL.ret xs.isEmpty := by
  unfold eqB
  rw [grd_pos (by cases xs <;> first | exact .inl ⟨rfl, rfl⟩ | exact .inr (.inl rfl))]
  cases xs <;> simp [py, pys, PyData.eqv, PyData.eqvAll]
theorem neB_nil {xs : List D} : neB (.lst xs) (.lst []) = PL.ret (!xs.isEmpty) := by
  unfold neB
  rw [grd_pos (by cases xs <;> first | exact .inl ⟨rfl, rfl⟩ | exact .inr (.inl rfl))]
  cases xs <;> simp [py, pys, PyData.eqv, PyData.eqvAll]
theorem okD_lay {x : D} (h : okD x = true) : (py x).canLay0 = true := by
  unfold okD SeqAt.shaped at h
  rw [Bool.and_eq_true] at h
  exact h.1
theorem eqB_same {x : D} (h : okD x = true) : eqB x x = PL.ret true := by
  unfold eqB
  rw [grd_pos (.inl ⟨h, h⟩), SeqAt.eqv_refl _ (okD_lay h)]
theorem neB_same {x : D} (h : okD x = true) : neB x x = PL.ret false := by
  unfold neB
  rw [grd_pos (.inl ⟨h, h⟩), SeqAt.eqv_refl _ (okD_lay h)]
  rfl
theorem addL_ok {xs ys : List D} (h : xs.length + ys.length ≤ 1000000) : addL xs ys = PL.ret (xs ++ ys) := grd_pos (by rw [sizeLine_eq]; omega) _
theorem ixL {xs : List D} {i : Nat} (h : i < xs.length) : ixD (.lst xs) (.int i) = PL.ret xs[i] := ix_l (atI_nat (List.getElem?_eq_getElem h))
theorem ixLZ {xs : List D} {i : Int} (h0 : 0 ≤ i) (h : i < xs.length) : ∃ x ∈ xs, ixD (.lst xs) (.int i) = PL.ret x := by
  obtain ⟨n, rfl⟩ := Int.eq_ofNat_of_zero_le h0
  have hn : n < xs.length := by omega
  exact ⟨xs[n], List.getElem_mem hn, ixL hn⟩
theorem ixSZ {s : Str} {i : Int} (h0 : 0 ≤ i) (h : i < s.length) : ∃ k ∈ s.cps.toList, ixD (.str s) (.int i) = PL.ret (chD k) := by
  obtain ⟨n, rfl⟩ := Int.eq_ofNat_of_zero_le h0
  have hn : n < s.cps.toList.length := by
    have : s.length = s.cps.size := rfl
    rw [Array.length_toList]
    omega
  exact ⟨s.cps.toList[n], List.getElem_mem hn, ix_s (atI_nat (List.getElem?_eq_getElem hn))⟩
/-- one of several, drawn -/
theorem Gen.pickL {β : Type} {xs : List D} {i : Int} {f : D → W β} {c : Nat} {Q : β → Prop} (h0 : 0 ≤ i) (h : i < xs.length) (k : ∀ y ∈ xs, Gen (f y) c Q) : Gen (PL.bnd (ixD (.lst xs) (.int i)) f) c Q := by
  obtain ⟨x, hx, e⟩ := ixLZ h0 h
  rw [e, bnd_ret]
  exact k x hx
theorem Gen.pickL0 {xs : List D} {i : Int} {Q : D → Prop} (h0 : 0 ≤ i) (h : i < xs.length) (k : ∀ y ∈ xs, Q y) : Gen (ixD (.lst xs) (.int i)) 0 Q := by
  obtain ⟨x, hx, e⟩ := ixLZ h0 h
  rw [e]
  exact Gen.ret (k x hx)
/-! ### sizes -/
def Sz (B k : Nat) (x : D) : Prop := Ok x ∧ (py x).bulk ≤ B ∧ (py x).depth ≤ k
theorem Sz.up {B B' k k' : Nat} {x : D} (h : Sz B k x) (h1 : B ≤ B') (h2 : k ≤ k') : Sz B' k' x := ⟨h.1, Nat.le_trans h.2.1 h1, Nat.le_trans h.2.2 h2⟩
def bulks (xs : List D) : Nat := PyData.bulkAll (pys xs)
theorem bulks_nil : bulks [] = 0 := by simp [bulks, pys, PyData.bulkAll]
theorem bulks_cons (x : D) (xs : List D) : bulks (x :: xs) = (py x).bulk + 1 + bulks xs := by simp [bulks, pys, PyData.bulkAll]
theorem bulks_len (xs : List D) : xs.length ≤ bulks xs := by
  induction xs with
  | nil => exact Nat.zero_le _
  | cons x xs ih => rw [bulks_cons, List.length_cons]; omega
theorem depths_le {k : Nat} {xs : List D} : PyData.depthAll (pys xs) ≤ k ↔ ∀ x ∈ xs, (py x).depth ≤ k := by
  induction xs with
  | nil => simp [pys, PyData.depthAll]
  | cons x xs ih => simp [pys, PyData.depthAll, Nat.max_le, ih]
/-- the parts of a tuple or list -/
def Parts (k : Nat) (xs : List D) : Prop := ∀ x ∈ xs, Ok x ∧ (py x).depth ≤ k
theorem Parts.up {j k : Nat} {xs : List D} (h : Parts j xs) (hk : j ≤ k) : Parts k xs := fun x hx => ⟨(h x hx).1, Nat.le_trans (h x hx).2 hk⟩
theorem Parts.app {k : Nat} {xs ys : List D} (h : Parts k xs) (h2 : Parts k ys) : Parts k (xs ++ ys) := fun x hx => (List.mem_append.mp hx).elim (h x) (h2 x)
theorem Parts.take {k : Nat} {xs : List D} (h : Parts k xs) (r : Nat) : Parts k (xs.take r) := fun x hx => h x (List.mem_of_mem_take hx)
theorem Parts.drop {k : Nat} {xs : List D} (h : Parts k xs) (r : Nat) : Parts k (xs.drop r) := fun x hx => h x (List.mem_of_mem_drop hx)
theorem Parts.nil {k : Nat} : Parts k [] := fun _ h => nomatch h
theorem Parts.cons {k : Nat} {x : D} {xs : List D} (h : Ok x ∧ (py x).depth ≤ k) (h2 : Parts k xs) : Parts k (x :: xs) := fun y hy => (List.mem_cons.mp hy).elim (fun e => e ▸ h) (h2 y)
theorem Sz.pt {B k : Nat} {x : D} (h : Sz B k x) : Ok x ∧ (py x).depth ≤ k := ⟨h.1, h.2.2⟩
theorem Sz.tup {B k : Nat} {xs : List D} (h : Parts k xs) (hb : bulks xs ≤ B) : Sz B (k + 1) (.tup xs) :=
  ⟨.tup fun x hx => (h x hx).1, by simpa [py, PyData.bulk, bulks] using hb, by simp only [py, PyData.depth]; exact Nat.succ_le_succ (depths_le.mpr fun x hx => (h x hx).2)⟩
theorem Sz.lst {B k : Nat} {xs : List D} (h : Parts k xs) (hb : bulks xs ≤ B) : Sz B (k + 1) (.lst xs) :=
  ⟨.lst fun x hx => (h x hx).1, by simpa [py, PyData.bulk, bulks] using hb, by simp only [py, PyData.depth]; exact Nat.succ_le_succ (depths_le.mpr fun x hx => (h x hx).2)⟩
theorem Sz.of_tup {B k : Nat} {xs : List D} (h : Sz B k (.tup xs)) : ∃ j, k = j + 1 ∧ Parts j xs ∧ bulks xs ≤ B := by
  obtain ⟨h1, h2, h3⟩ := h
  simp only [py, PyData.depth] at h3
  refine ⟨k - 1, by omega, fun x hx => ⟨?_, ?_⟩, by simpa [py, PyData.bulk, bulks] using h2⟩
  · cases h1 with
    | tup h => exact h x hx
  · exact depths_le.mp (show PyData.depthAll (pys xs) ≤ k - 1 by omega) x hx
theorem Sz.str {s : Str} {B k : Nat} (h : okD (.str s) = true) (h2 : s.length ≤ B) : Sz B k (.str s) := ⟨.str h, by simp only [py, PyData.bulk]; exact h2, by simp [py, PyData.depth]⟩
theorem Sz.int {i : Int} {B k : Nat} (h : i.natAbs < 10 ^ 61) : Sz B k (.int i) := ⟨.int h, by simp [py, PyData.bulk], by simp [py, PyData.depth]⟩
theorem Sz.bl {b : Bool} {B k : Nat} : Sz B k (.bl b) := ⟨.bl b, by simp [py, PyData.bulk], by simp [py, PyData.depth]⟩
theorem Sz.non {B k : Nat} : Sz B k .non := ⟨.non, by simp [py, PyData.bulk], by simp [py, PyData.depth]⟩
theorem repr_sz {B k : Nat} {x : D} (h : Sz B k x) (hb : B ≤ 200000) (hd : k ≤ 64) : reprD x = PL.ret (.str (py x).shown) := (repr_ok h.1 (Nat.le_trans h.2.1 hb) (Nat.le_trans h.2.2 hd)).1
theorem Sz.len_tup {B k : Nat} {xs : List D} (h : Sz B k (.tup xs)) : xs.length ≤ B := by
  obtain ⟨j, rfl, hp, hb⟩ := h.of_tup
  have := bulks_len xs
  omega
end PL

/-! Words, values, stores, states as data. -/
namespace PL
open PySem PySem.Spec L2
def lower (k : Nat) : Bool := decide (97 ≤ k ∧ k ≤ 122)
def wordB : D → Bool
  | .str s => decide (1 ≤ (s.length : Int)) && decide ((s.length : Int) ≤ 8) && s.cps.toList.all lower
  | _ => false
theorem bls_map {α : Type} (f : α → Bool) : ∀ xs : List α, bls (xs.map fun k => D.bl (f k)) = some (xs.map f)
  | [] => rfl
  | x :: xs => by
    show (bls (xs.map _)).map _ = _
    rw [bls_map f xs]
    rfl
theorem all_bls {α : Type} (f : α → Bool) (xs : List α) : allD (.lst (xs.map fun k => D.bl (f k))) = ret (.bl (xs.all f)) := by
  show (match bls (xs.map fun k => D.bl (f k)) with | some bs => PL.ret (D.bl (bs.all id)) | none => stuck : W D) = _
  rw [bls_map]
  congr 2
  induction xs with
  | nil => rfl
  | cons x l ih => simp [List.all_cons]
theorem abc : (Str.ofString "abcdefghijklmnopqrstuvwxyz").cps.toList = [97, 98, 99, 100, 101, 102, 103, 104, 105, 106, 107, 108, 109, 110, 111, 112, 113, 114, 115, 116, 117, 118, 119, 120, 121, 122] := by decide +kernel
theorem letters (k : Nat) : decide (k ∈ (Str.ofString "abcdefghijklmnopqrstuvwxyz").cps.toList) = lower k := by
  rw [abc]
  unfold lower
  apply decide_eq_decide.mpr
  simp only [List.mem_cons, List.not_mem_nil, or_false]
  omega
theorem in_abc (k : Nat) : inStr false (chD k) (.str (Str.ofString "abcdefghijklmnopqrstuvwxyz")) = ret (.bl (lower k)) := by
  show PL.ret (D.bl (decide (k ∈ (Str.ofString "abcdefghijklmnopqrstuvwxyz").cps.toList))) = _
  rw [letters]
theorem short8 {s : Str} (h : (s.length : Int) ≤ 8) : s.cps.toList.length ≤ 1000000 := by
  rw [Array.length_toList]
  have : s.length = s.cps.size := rfl
  omega
theorem az (k : Nat) : (!decide ((Str.mk #[k]).cps.toList < (Str.ofString "a").cps.toList)) = decide (97 ≤ k) ∧ (!decide ((Str.ofString "z").cps.toList < (Str.mk #[k]).cps.toList)) = decide (k ≤ 122) := by
  have ea : (Str.ofString "a").cps.toList = [97] := by decide +kernel
  have ez : (Str.ofString "z").cps.toList = [122] := by decide +kernel
  have ek : (Str.mk #[k]).cps.toList = [k] := rfl
  have one : ∀ a b : Nat, ([a] : List Nat) < [b] ↔ a < b := fun a b => by
    rw [List.cons_lt_cons_iff]
    simp
  rw [ea, ez, ek]
  constructor
  · rw [← decide_not]
    apply decide_eq_decide.mpr
    rw [one]
    omega
  · rw [← decide_not]
    apply decide_eq_decide.mpr
    rw [one]
    omega
def numB : D → Bool
  | .int i => decide (-1000000000000000000 ≤ i) && decide (i ≤ 1000000000000000000)
  | _ => false
/-! ### what is drawn -/
def IsW (d : D) : Prop := ∃ s : Str, d = .str s ∧ wordB (.str s) = true
theorem lower_of {k : Nat} (h : k ∈ (Str.ofString "abcdefghijklmnopqrstuvwxyz").cps.toList) : lower k = true := by
  rw [← letters]
  exact decide_eq_true h
theorem wordB_signs (ks : List Nat) (h1 : 1 ≤ ks.length) (h2 : ks.length ≤ 8) (h : ∀ k ∈ ks, lower k = true) : wordB (.str ⟨ks.toArray⟩) = true := by
  have e : (Str.mk ks.toArray).length = ks.length := List.size_toArray
  simp only [wordB, Bool.and_eq_true, decide_eq_true_eq, List.all_eq_true, e]
  refine ⟨⟨by omega, by omega⟩, fun k hk => h k hk⟩
theorem IsW.ch {k : Nat} (h : lower k = true) : IsW (chD k) := ⟨⟨#[k]⟩, rfl, wordB_signs [k] (Nat.le_refl _) (by show 1 ≤ 8; decide) fun j hj => by rw [List.mem_singleton.mp hj]; exact h⟩
theorem IsW.ok {d : D} (h : IsW d) {k : Nat} : Sz 8 k d := by
  obtain ⟨s, rfl, h⟩ := h
  simp only [wordB, Bool.and_eq_true, decide_eq_true_eq, List.all_eq_true] at h
  refine Sz.str (okD_small fun k hk => ?_) (by omega)
  have := h.2 k hk
  simp only [lower, decide_eq_true_eq] at this
  omega
def IsN (d : D) : Prop := ∃ i : Int, d = .int i ∧ numB (.int i) = true
theorem IsN.ok {d : D} (h : IsN d) {B k : Nat} : Sz B k d := by
  obtain ⟨i, rfl, h⟩ := h
  simp only [numB, Bool.and_eq_true, decide_eq_true_eq] at h
  refine Sz.int ?_
  have e : (10 : Nat) ^ 61 = 10000000000000000000000000000000000000000000000000000000000000 := by decide
  rw [e]
  omega
/-! ### stores -/
/-! ### states -/
theorem cut_take (xs : List D) (r : Nat) : cutD xs none (some (r : Int)) = xs.take r := by
  unfold cutD
  rw [HT.sIx_none, HT.sIx_nat, List.drop_zero, Nat.sub_zero]
  by_cases h : r ≤ xs.length
  · rw [Nat.min_eq_left h]
  · rw [Nat.min_eq_right (by omega), List.take_length, List.take_of_length_le (by omega)]
theorem cut_drop (xs : List D) (r : Nat) : cutD xs (some (r : Int)) none = xs.drop r := by
  unfold cutD
  rw [HT.sIx_none, HT.sIx_nat]
  by_cases h : r ≤ xs.length
  · rw [Nat.min_eq_left h, List.take_of_length_le (by rw [List.length_drop]; omega)]
  · rw [Nat.min_eq_right (by omega), List.drop_length, List.drop_of_length_le (by omega), List.take_nil]
theorem slD_tup (xs : List D) (lo hi : Option Int) : slD (.tup xs) lo hi = ret (.tup (cutD xs lo hi)) := rfl
theorem succ_cast (r : Nat) : ((r : Int) + 1) = ((r + 1 : Nat) : Int) := rfl
end PL

/-! Dicts with words as keys, and their pairs in order. -/
namespace PL
open PySem PySem.Spec L2
def keyS : Key → Str
  | .inr s => s
  | .inl _ => Str.ofString ""
def keysS (j : List (Key × D)) : List Str := j.map fun kv => keyS kv.1
/-- words for keys, none twice, values as told -/
def DI (v : D → Bool) (j : List (Key × D)) : Prop := (∀ kv ∈ j, ∃ s, kv.1 = .inr s ∧ wordB (.str s) = true ∧ v kv.2 = true) ∧ (j.map (·.1)).Nodup
theorem DI.nil {v : D → Bool} : DI v [] := ⟨fun _ h => (nomatch h), List.nodup_nil⟩
theorem setK1_keys (k : Key) (x : D) : ∀ j : List (Key × D), (setK1 k x j).map (·.1) = j.map (·.1)
  | [] => rfl
  | (a, y) :: r => by
    unfold setK1
    rw [List.map_cons, List.map_cons, setK1_keys k x r]
    split <;> simp [*]
theorem setK1_mem {k : Key} {x : D} : ∀ {j : List (Key × D)} {kv : Key × D}, kv ∈ setK1 k x j → kv ∈ j ∨ (kv = (k, x) ∧ k ∈ j.map (·.1))
  | [], _, h => nomatch h
  | (a, y) :: r, kv, h => by
    unfold setK1 at h
    rcases List.mem_cons.mp h with h | h
    · by_cases e : a = k
      · rw [if_pos e] at h
        exact .inr ⟨by rw [h, e], by rw [List.map_cons, e]; exact List.mem_cons_self⟩
      · rw [if_neg e] at h
        exact .inl (h ▸ List.mem_cons_self)
    · rcases setK1_mem h with h | ⟨h, h2⟩
      · exact .inl (List.mem_cons_of_mem _ h)
      · exact .inr ⟨h, by rw [List.map_cons]; exact List.mem_cons_of_mem _ h2⟩
theorem putD_has {j : List (Key × D)} {k : Key} {x : D} (h : k ∈ j.map (·.1)) : putD j k x = setK1 k x j := by
  unfold putD
  rw [if_pos, setK1_eq]
  obtain ⟨kv, h1, h2⟩ := List.mem_map.mp h
  exact List.any_eq_true.mpr ⟨kv, h1, decide_eq_true h2⟩
theorem putD_not {j : List (Key × D)} {k : Key} {x : D} (h : k ∉ j.map (·.1)) : putD j k x = j ++ [(k, x)] := by
  unfold putD
  rw [if_neg]
  intro q
  obtain ⟨kv, h1, h2⟩ := List.any_eq_true.mp q
  exact h (List.mem_map.mpr ⟨kv, h1, of_decide_eq_true h2⟩)
theorem DI.put {v : D → Bool} {j : List (Key × D)} {s : Str} {x : D} (h : DI v j) (hs : wordB (.str s) = true) (hx : v x = true) : DI v (putD j (.inr s) x) := by
  by_cases q : Sum.inr s ∈ j.map (·.1)
  · rw [putD_has q]
    refine ⟨fun kv hk => ?_, by rw [setK1_keys]; exact h.2⟩
    rcases setK1_mem hk with hk | ⟨rfl, _⟩
    · exact h.1 kv hk
    · exact ⟨s, rfl, hs, hx⟩
  · rw [putD_not q]
    refine ⟨fun kv hk => ?_, ?_⟩
    · rcases List.mem_append.mp hk with hk | hk
      · exact h.1 kv hk
      · rw [List.mem_singleton.mp hk]
        exact ⟨s, rfl, hs, hx⟩
    · rw [List.map_append]
      refine List.nodup_append.mpr ⟨h.2, by simp, fun a ha b hb => ?_⟩
      intro e
      simp at hb
      rw [e, hb] at ha
      exact q ha
theorem DI.mono {v w : D → Bool} {j : List (Key × D)} (h : DI v j) (hw : ∀ x, v x = true → w x = true) : DI w j :=
  ⟨fun kv hk => by obtain ⟨s, a, b, c⟩ := h.1 kv hk; exact ⟨s, a, b, hw _ c⟩, h.2⟩
theorem keysS_nodup {v : D → Bool} {j : List (Key × D)} (h : DI v j) : (keysS j).Nodup := by
  have e : (keysS j).map Sum.inr = j.map (fun kv => kv.1) := by
    unfold keysS
    rw [List.map_map]
    refine List.map_congr_left fun kv hk => ?_
    obtain ⟨s, a, _⟩ := h.1 kv hk
    simp [a, keyS]
  have q := h.2
  rw [← e] at q
  exact List.Pairwise.imp (fun {a b} h e => h (congrArg Sum.inr e)) (List.pairwise_map.mp q)
theorem keysS_word {v : D → Bool} {j : List (Key × D)} (h : DI v j) {s : Str} (hs : s ∈ keysS j) : wordB (.str s) = true := by
  obtain ⟨kv, hk, rfl⟩ := List.mem_map.mp hs
  obtain ⟨s, a, b, _⟩ := h.1 kv hk
  rw [a]
  exact b
theorem valD_some {v : D → Bool} {j : List (Key × D)} (h : DI v j) {s : Str} (hs : s ∈ keysS j) : ∃ x, valD j (.inr s) = some x ∧ v x = true := by
  have q : (j.find? fun kv => decide (kv.1 = .inr s)).isSome := by
    rw [List.find?_isSome]
    obtain ⟨kv, hk, e⟩ := List.mem_map.mp hs
    obtain ⟨t, a, _⟩ := h.1 kv hk
    refine ⟨kv, hk, decide_eq_true ?_⟩
    rw [a] at e ⊢
    exact congrArg Sum.inr e
  obtain ⟨kv, e⟩ := Option.isSome_iff_exists.mp q
  refine ⟨kv.2, by unfold valD; rw [e]; rfl, ?_⟩
  obtain ⟨_, _, _, c⟩ := h.1 kv (List.mem_of_find?_eq_some e)
  exact c
def valS (j : List (Key × D)) (s : Str) : D := (valD j (.inr s)).getD .non
/-- a dict's pairs, by their keys in order -/
def pairsOf (j : List (Key × D)) : List D := (sortT (keysS j)).map fun s => .tup [.str s, valS j s]
theorem sortT_perm (ss : List Str) : (sortT ss).Perm ss := List.mergeSort_perm ss leS
theorem sortT_mem {ss : List Str} {s : Str} : s ∈ sortT ss ↔ s ∈ ss := (sortT_perm ss).mem_iff
end PL

/-! {**a, **b} and dict(tuple of pairs), on the machine. -/
namespace PL
open PySem PySem.Spec L2
open Sem (wp)
section
variable {prog : Program} {w : World} {K : Type} [DecidableEq K] {knd : KeyKind prog w K} {A : Around} {E : Value → Shared → Prop} {s : Shared}
end
end PL

/-! {**a, **b} over the hand layer's heap. -/
namespace PL
open PySem PySem.Spec L2
section
variable {X : Cx}
end
end PL

/-! dict(..), d.get(..), {**a, **b}, lists made over a dict's keys. -/
namespace PL
open PySem PySem.Spec L2
/-! ### dict(tuple of pairs) -/
section
variable {X : Cx} {pins : List (Addr × Obj)} {σ : L2.St} {H : Hp} {s : Shared}
end
/-! ### pairs as data -/
section
variable {K : PySem.W.Frag} {S : Addr → Prop} {H : Hp}
end
section
variable {G : PenK} {X : Cx} {Wx : WX} {c : C} {σ : L2.St} {ρ : Env} {H : Hp} {n : Nt}
theorem GlK.new {P : List (Key × D) → Nt → Prop} {Q : VK} (h : GlK G X c σ ρ H P Q) {xs : List (Key × D)} {a : Addr} {vs : List (Key × V)} (p : P xs n) (I : SI G X.K c σ H ρ n) (hp : H a = none) (r : RepK X.K c.S H xs vs) : Q (.ref a) (upd H a (.dK vs)) := by
  obtain ⟨I2, g2, f⟩ := SI.bare (o := .dK vs) I hp
  exact h xs n a vs c.S _ p g2 I2 upd_same (RepK.grow g2 _ _ r) f
end
end PL

/-! d.get(k), {**a, **b}, [.. for key in d ..]. -/
namespace PL
open PySem PySem.Spec L2
section
variable {G : PenK} {X : Cx} {Wx : WX}
/-! ### d.get(k) -/
/-! ### dicts that are only read or made anew: nothing else is laid or changed -/
theorem nm_inv {ρ : Env} {i : Nat} {n : Nt} {α : Type} {f : D → W α} {P : α → Nt → Prop} {PX : Exc → Nt → Prop} (h : bnd (nm ρ i) f n P PX) : ∃ d, ρ[i]? = some (.d d) ∧ f d n P PX := by
  unfold nm at h
  cases e : ρ[i]? with
  | none => rw [e] at h; exact False.elim h
  | some sv =>
    rw [e] at h
    cases sv with
    | d x => exact ⟨x, rfl, h⟩
    | _ => exact False.elim h
end
/-! ### [.. for key in d ..]: the dict is locked meanwhile -/
def C.free (c : C) (d : Addr) : C := { c with H0 := fun a => if a = d then none else c.H0 a }
mutual
theorem Rep.rd {K : PySem.W.Frag} {S : Addr → Prop} {H H' : Hp} (hl : ∀ a xs, S a → H a = some (.lst xs) → H' a = some (.lst xs)) (ht : ∀ a xs, S a → PlT H a xs → PlT H' a xs) (hd : (∀ a kws, S a → Rd H a (.dK kws) → Rd H' a (.dK kws)) ∧ ∀ a C dx fs, S a → H a = some (.ins C dx fs) → H' a = some (.ins C dx fs)) : ∀ (x : D) (v : V), Rep K S H x v → Rep K S H' x v
  | .non, _, h => h
  | .bl _, _, h => h
  | .int _, _, h => h
  | .str _, _, h => h
  | .lst xs, _, h => by
    obtain ⟨a, vs, e, ⟨r1, r2⟩, z, q⟩ := h
    exact ⟨a, vs, e, ⟨r1, hl a _ r1 r2⟩, z, Reps.rd hl ht hd xs vs q⟩
  | .tup xs, _, h => by
    obtain ⟨a, vs, e, r, z, q⟩ := h
    exact ⟨a, vs, e, r.elim (fun ⟨r1, r2⟩ => .inl ⟨r1, ht a _ r1 r2⟩) .inr, z, Reps.rd hl ht hd xs vs q⟩
  | .dic kvs, _, h => by
    obtain ⟨a, kws, e, ⟨r1, r2⟩, q⟩ := h
    exact ⟨a, kws, e, ⟨r1, hd.1 a _ r1 r2⟩, RepK.rd hl ht hd kvs kws q⟩
  | .ins _ _ x, _, h => by
    obtain ⟨a, C, dx, w, e, i, ⟨r1, r2⟩, q⟩ := h
    exact ⟨a, C, dx, w, e, i, ⟨r1, hd.2 a _ _ _ r1 r2⟩, Rep.rd hl ht hd x w q⟩
theorem Reps.rd {K : PySem.W.Frag} {S : Addr → Prop} {H H' : Hp} (hl : ∀ a xs, S a → H a = some (.lst xs) → H' a = some (.lst xs)) (ht : ∀ a xs, S a → PlT H a xs → PlT H' a xs) (hd : (∀ a kws, S a → Rd H a (.dK kws) → Rd H' a (.dK kws)) ∧ ∀ a C dx fs, S a → H a = some (.ins C dx fs) → H' a = some (.ins C dx fs)) : ∀ (xs : List D) (vs : List V), Reps K S H xs vs → Reps K S H' xs vs
  | [], _, h => h
  | x :: xs, _, h => by
    obtain ⟨v, ws, e, r, q⟩ := h
    exact ⟨v, ws, e, Rep.rd hl ht hd x v r, Reps.rd hl ht hd xs ws q⟩
theorem RepK.rd {K : PySem.W.Frag} {S : Addr → Prop} {H H' : Hp} (hl : ∀ a xs, S a → H a = some (.lst xs) → H' a = some (.lst xs)) (ht : ∀ a xs, S a → PlT H a xs → PlT H' a xs) (hd : (∀ a kws, S a → Rd H a (.dK kws) → Rd H' a (.dK kws)) ∧ ∀ a C dx fs, S a → H a = some (.ins C dx fs) → H' a = some (.ins C dx fs)) : ∀ (xs : List (Key × D)) (vs : List (Key × V)), RepK K S H xs vs → RepK K S H' xs vs
  | [], _, h => h
  | (k, x) :: xs, _, h => by
    obtain ⟨v, ws, e, r, q⟩ := h
    exact ⟨v, ws, e, Rep.rd hl ht hd x v r, RepK.rd hl ht hd xs ws q⟩
end
section
variable {G : PenK} {K : PySem.W.Frag} {c : C} {σ : L2.St} {ρ : Env} {H H' : Hp} {n k : Nt} {d : Addr} {o : Obj} {kws : List (Key × V)}
theorem RepX.rd {S : Addr → Prop} {mg : Str → Option Value} {x : Exc} {cls : Value} {dd : Option Addr} (f : ∀ x v, Rep K S H x v → Rep K S H' x v) (hx : ∀ a fv, H a = some (.xd fv) → H' a = some (.xd fv)) (h : RepX K mg S H x cls dd) : RepX K mg S H' x cls dd := by
  obtain ⟨A, h1, h2, h3⟩ := h
  exact ⟨A, h1, h2, h3.imp id fun ⟨d, fv, e, hs, hd, p⟩ => ⟨d, fv, e, hs, hx d fv hd, repX_pair f p⟩⟩
theorem LamOk.rd {S : Addr → Prop} {b : Addr} {q : Str} {τ : L2.St} {ds : List (Option D)} (f : ∀ x v, Rep K S H x v → Rep K S H' x v) (he : ∀ a φ, H a = some (.ext φ) → H' a = some (.ext φ)) (h : LamOk K S H b q τ ds) : LamOk K S H' b q τ ds := by
  obtain ⟨h1, h2, h3, h4⟩ := h
  refine ⟨h1, he b _ h2, h3, fun i x e => ?_⟩
  obtain ⟨v, e1, r⟩ := h4 i x e
  exact ⟨v, e1, f x v r⟩
theorem TabI.rd {S : Addr → Prop} {P : Addr} {q : Str} (he : ∀ a φ, H a = some (.ext φ) → H' a = some (.ext φ)) (e : H' P = H P) (h : TabI S H P q) : TabI S H' P q := by
  obtain ⟨ps, h1, h2, h3⟩ := h
  refine ⟨ps, e.trans h1, h2, fun pos cv z => ?_⟩
  obtain ⟨c, e1, e2, e3⟩ := h3 pos cv z
  exact ⟨c, e1, e2, he c _ e3⟩
theorem TabI.ne {S : Addr → Prop} {P b : Addr} {q : Str} {o : HO} (h : TabI S H P q) (e : H b = some o) (n : ∀ ps, o ≠ .tbl ps) : P ≠ b := by
  obtain ⟨ps, h1, _⟩ := h
  intro z
  rw [z, e] at h1
  exact n ps (Option.some.inj h1)
theorem NdOk.rd {K : PySem.W.Frag} {S : Addr → Prop} {H H' : Hp} {a : Addr} {nd : Nd} (f : ∀ d v, Rep K S H d v → Rep K S H' d v) (e : H' a = H a) (h : NdOk K S H a nd) : NdOk K S H' a nd := h.move e
end
end PL

/-! [.. for key in d ..] -/
namespace PL
open PySem PySem.Spec L2
section
variable {G : PenK} {X : Cx} {Wx : WX}
end
end PL

/-! sorted of pairs (text, int). -/
namespace PL
open PySem PySem.Spec PyProof.Rows L2
open SrtO hiding Str
def IsSI (h : Heap) (v : Value) (x : Str) (y : Int) : Prop := ∃ a o t u n, v = .ref a ∧ h.get? a = some o ∧ o.cls = .type "tuple" ∧ o.data = .seq #[.str x t, .int y u] n
theorem IsSI.keeps {h h' : Heap} {v : Value} {x : Str} {y : Int} (p : IsSI h v x y) (k : ∀ b o, h.get? b = some o → o.cls = .type "tuple" → h'.get? b = some o) : IsSI h' v x y := by
  obtain ⟨a, o, t, u, n, e, ho, hc, hd⟩ := p
  exact ⟨a, o, t, u, n, e, k _ _ ho hc, hc, hd⟩
section
variable {prog : Program} {w : World} {A : Around} {E : Value → Shared → Prop} {s : Shared}
end
section
variable {X : Cx} {pins : List (Addr × Obj)} {σ : L2.St} {H : Hp} {s : Shared}
end
section
variable {G : PenK} {X : Cx} {Wx : WX}
end
end PL

/-! a, b = x, y with local names: no pair is made. -/
namespace PL
open PySem PySem.Spec L2
section
variable {G : PenK} {X : Cx} {Wx : WX} {γ : Type} {En : Enz γ} {ρ : Env} {rest : List Stmt} {m : W γ}
end
end PL

/-! range(a, b, -1); a, b, c, d = e. -/
namespace PL
open PySem PySem.Spec L2
section
variable {G : PenK} {X : Cx} {Wx : WX}
end
end PL

/-! zip of two lists or two tuples: each pair told by its object. -/
namespace PL
open PySem PySem.Spec PyProof.Rows L2 RZ
end PL

/-! for x, y in zip(a, b) -/
namespace PL
open PySem PySem.Spec L2
section
variable {G : PenK} {K : PySem.W.Frag} {S : Addr → Prop} {H : Hp} {a b : Addr} {xs ys : List D} {vs ws : List V}
end
section
variable {G : PenK} {X : Cx} {Wx : WX}
end
end PL

/-! x += e of ints; sum, max, min of ints. -/
namespace PL
open PySem PySem.Spec L2
def addI : D → D → W Int
  | .int i, .int j => ret (i + j)
  | _, _ => stuck
section
variable {G : PenK} {X : Cx} {Wx : WX} {γ : Type} {En : Enz γ} {ρ : Env} {rest : List Stmt} {m : W γ}
theorem s_augI {x : Str} {px pos : Pos} {e : Expr} {g : Env → W D} (i : Nat) (h : E G X Wx e g) (hN : X.N.Nodup) (hi : X.N[i]? = some x) (hx : Loc X.env.scope x) (hf : X.fn x = true ∨ X.env.scope.names.lookup x = some .local) :
    St1 G X Wx (.AugAssign (.Name x px) .Add e pos) (fun ρ => bnd (bnd (nm ρ i) fun old => bnd (g ρ) fun d => addI old d) fun z => ret (.nx (ρ.set i (.d (.int z))))) :=
  weakS (ps_aug hN hi hx h ip_add hf) fun Dn σ H ⟨c, ρ, n, P, PX, I, q, hg, hxx⟩ => by
    obtain ⟨old, e1, q⟩ := nm_inv (show bnd (nm ρ i) (fun old => bnd (g ρ) fun d => bnd (addI old d) fun z => ret (Out.nx (ρ.set i (.d (.int z))))) n P PX from q)
    obtain ⟨v, e2, r⟩ := I.slots i _ e1
    refine ⟨v, slot_some e2, tE.bnd (α := Out) (P := P) (f := fun d => bnd (addI old d) fun z => ret (Out.nx (ρ.set i (.d (.int z))))) I q hxx.x fun d k u S' H' p gr I' hx' r' => ?_⟩
    cases old with
    | int a =>
      cases d with
      | int b =>
        cases r
        cases r'
        exact ⟨a, b, rfl, rfl, hg.1 _ k _ S' H' p gr (I'.set (i := i) (d := .int (a + b)) (v := .int (a + b)) rfl)⟩
      | _ => exact False.elim p
    | _ => exact False.elim p
theorem sg_augI {x : Str} {px pos : Pos} {e : Expr} {g : Env → W D} {m0 : W Int} {k : Int → W γ} {ρ' : Int → Env} (i L : Nat) (h : E G X Wx e g) (hN : X.N.Nodup) (hg : (bnd (nm ρ i) fun old => bnd (g ρ) fun d => addI old d) = m0) (hL : ρ.length = L) (hiL : i < L) (hρ : ∀ a, ρ.set i (.d (.int a)) = ρ' a) (hr : ∀ a, SG G X Wx rest (ρ' a) En (k a))
    (hi : X.N[i]? = some x := by rfl) (hx : Loc X.env.scope x := by first | exact Or.inl rfl | exact Or.inr rfl) (hf : X.fn x = true ∨ X.env.scope.names.lookup x = some .local := by first | exact .inl rfl | exact .inr rfl) : SG G X Wx (.AugAssign (.Name x px) .Add e pos :: rest) ρ En (bnd m0 k) :=
  sg_stmt (s_augI i h hN hi hx hf) (by rw [hg]) (set_inj (lt_lit hL hiL) fun _ _ h => D.int.inj h) fun a => by rw [hρ]; exact hr a
theorem sg_augIP {x : Str} {px pos : Pos} {e : Expr} {g : Env → W D} {z : Int} {ρ' : Env} (i : Nat) (h : E G X Wx e g) (hN : X.N.Nodup) (hg : (bnd (nm ρ i) fun old => bnd (g ρ) fun d => addI old d) = ret z) (hρ : ρ.set i (.d (.int z)) = ρ') (hr : SG G X Wx rest ρ' En m)
    (hi : X.N[i]? = some x := by rfl) (hx : Loc X.env.scope x := by first | exact Or.inl rfl | exact Or.inr rfl) (hf : X.fn x = true ∨ X.env.scope.names.lookup x = some .local := by first | exact .inl rfl | exact .inr rfl) : SG G X Wx (.AugAssign (.Name x px) .Add e pos :: rest) ρ En m :=
  sg_stmt (m0 := ret ()) (e := fun _ => ρ.set i (.d (.int z))) (k := fun _ => m) (s_augI i h hN hi hx hf) (by rw [hg]; rfl) (fun _ _ _ => rfl) fun _ => by rw [hρ]; exact hr
end
/-! ### sums -/
def intsL : List D → Option (List Int)
  | [] => some []
  | .int i :: r => (intsL r).map fun l => i :: l
  | _ => none
def sumW : D → W Int
  | .lst xs => bnd (optW (intsL xs)) fun l => ret l.sum
  | _ => stuck
theorem reps_ints {K : PySem.W.Frag} {S : Addr → Prop} {H : Hp} : ∀ {xs : List D} {vs : List V} {l : List Int}, Reps K S H xs vs → intsL xs = some l → vs = l.map V.int
  | [], _, _, h, e => by
    have e0 : _ = [] := h
    rw [e0]
    cases e
    rfl
  | .int i :: xs, _, l, h, e => by
    obtain ⟨v, ws, rfl, r, q⟩ := h
    have e : (intsL xs).map (fun l => i :: l) = some l := e
    cases es : intsL xs with
    | none => rw [es] at e; cases e
    | some l2 =>
      rw [es] at e
      cases e
      cases r
      rw [reps_ints q es]
      rfl
  | .non :: _, _, _, _, e => by cases e
  | .bl _ :: _, _, _, _, e => by cases e
  | .str _ :: _, _, _, _, e => by cases e
  | .lst _ :: _, _, _, _, e => by cases e
  | .tup _ :: _, _, _, _, e => by cases e
  | .dic _ :: _, _, _, _, e => by cases e
  | .ins _ _ _ :: _, _, _, _, e => by cases e
section
variable {G : PenK} {X : Cx} {Wx : WX}
theorem e_sum {p pos : Pos} {e : Expr} {g : Env → W D} (hc : X.calm = true) (hm : X.mg "sum" = none) (h : E G X Wx e g) (hg : Gl X "sum" := by rfl) (he : starEach [e] X.env = (false, eval e X.env) :: starEach [] X.env := by rfl) :
    E G X Wx (.Call (.Name "sum" p) [e] [] pos) (fun ρ => bnd (g ρ) fun d => bnd (sumW d) fun i => ret (.int i)) :=
  e_b1 hm (by decide +kernel) (cr_sum hc) (r := fun x H Q => ∃ (a : Addr) (ns : List Int), x = V.ref a ∧ SqL X.K H a (ns.map V.int) ∧ Q (.int ns.sum) H) (by
    intro c σ ρ H n P PX d v Q I r q hg hx
    cases d with
    | lst xs =>
      obtain ⟨a, vs, rfl, r1, z, q1⟩ := r
      obtain ⟨l, el, q⟩ := optW_inv (show optW (intsL xs) n (fun l k => P (.int l.sum) k) PX from q)
      obtain rfl := reps_ints q1 el
      exact ⟨a, l, rfl, r1.sq, hg.at (d := .int l.sum) q I rfl⟩
    | _ => exact False.elim q) (fun x H Q ⟨a, ns, e, h⟩ => ⟨a, ns, by rw [e], h⟩) h hg (by decide) (by decide) he (by rfl)
end
end PL

/-! a law's def over any source of draws. -/
namespace PL
open PySem PySem.Spec PyProof.Rows L2
/-- the source is made of the script -/
def spFeedK (G : PenK) (K : PySem.W.Frag) : Sp := fun vs H Q _ => ∃ (a : Addr) (ns : List Int), vs = [.ref a] ∧ SqL K H a (ns.map V.int) ∧ ns.length ≤ 63 ∧ ∀ H' p b, G.inv H' p b 0 → (∀ P ps, H P = some (.tbl ps) → H' P = some (.tbl ps)) → Q (.ref p) H'
/-- what the law's def promises, its tables of code objects empty at first -/
def spLawT (K : PySem.W.Frag) (T : List (Addr × Str)) : Sp := fun vs H Q _ => ∃ (a : Addr) (ns : List Int), vs = [.ref a] ∧ SqL K H a (ns.map V.int) ∧ ns.length ≤ 63 ∧ (∀ q ∈ T, H q.1 = some (.tbl #[])) ∧ ∀ H', Q (.bl true) H'
theorem law_defKC (G : PenK) {P : Program} {w : World} {K : PySem.W.Frag} {mg : Str → Option Value} {base : Heap} {k : Nat} {f ff : Addr} {fd fdf : FuncData} {st : Stmt} {N NR : List Str} {fn x0 x1 : Str} {px p p2 p3 px' : Pos} {rest : List Stmt} {b : W D} (F : Fun K "law" "law" st f fd) (S : FnScope N [x0] (defScope st))
    (hst : defBody st = .Assign [.Name x1 px] (.Call (.Name fn p) [.Name x0 p2] [] p3) px' :: rest) (hN : N = x0 :: x1 :: NR) (hf : (defScope st).names.lookup fn = some .globalImplicit) (hx0 : (defScope st).names.lookup x0 = some .local) (hx1 : Loc (defScope st) x1)
    (hd0 : (x0 == ("__debug__" : Str)) = false) (hc0 : (x0 == ("__classdict__" : Str)) = false) (hdf : (fn == ("__debug__" : Str)) = false)
    (GF : FnG P w K mg base k ff fdf [x0] (spFeedK G K)) (gF : mg fn = some (.ref ff)) (kF : PySem.W.keepIn K (.ref ff) = true) (bF : Binds K fdf [x0] [])
    (body : ∀ (cdv : Value) (A : Around) (outer : List PySem.Env) (s : Shared) (H : Hp) (E : XK) (Wx : WX), fd.code = cdv → A.guards = some [] → Room k (A.deeper (envOfC "law" (defScope st) s.heap.objs.size f cdv)) → Takes (cxOf (L2.CX P w) P w K mg base N "law" (defScope st) f cdv A outer s H E) Wx →
      PassesOwn (model P w) (A.deeper (envOfC "law" (defScope st) s.heap.objs.size f cdv)) (envOfC "law" (defScope st) s.heap.objs.size f cdv) (cxOf (L2.CX P w) P w K mg base N "law" (defScope st) f cdv A outer s H E).xe → SG G (cxOf (L2.CX P w) P w K mg base N "law" (defScope st) f cdv A outer s H E) Wx rest (.un :: .pen :: List.replicate NR.length .un) EnT b)
    (holds : b n0 (fun d _ => d = .bl true) (fun _ _ => False)) : FnG P w K mg base (k + 1) f fd [x0] (spLawT K G.tab) := by
  subst hN
  refine FnG.of_bodyC F S (fun vs H Q E ⟨a, ns, e, _⟩ => by rw [e]; rfl) fun cdv A outer s H vs Q E hcc hg hr ⟨a, ns, e, hS, hl, htb, q⟩ => ?_
  subst e
  have hb := body cdv A outer s H E (fun cls d _ H => E cls d H) hcc hg hr (L2.takes_of rfl rfl rfl rfl) (passes_of rfl)
  rw [hst]
  refine ⟨_, pss_cons (ps_set (i := 1) S.nd rfl hx1 (pe_callG (Wx := fun cls d _ H => E cls d H) GF hg hr (L2.takes_of rfl rfl rfl rfl) hf gF kF bF (pa_cons (pe_var (i := 0) rfl (.inl hx0) hd0 hc0) pa_nil) hdf)) hb, ?_⟩
  refine ⟨.ref a, rfl, a, ns, rfl, hS, hl, fun H' p b gp ktb => ?_⟩
  have hlen : (L2.start (x0 :: x1 :: NR) [V.ref a]).set 1 (some (.ref p)) = some (.ref a) :: some (.ref p) :: List.replicate NR.length none := by
    unfold L2.start
    show (some (V.ref a) :: (List.replicate ((NR.length + 1 + 1) - 1) none)).set 1 _ = _
    rw [Nat.add_sub_cancel, List.replicate_succ]
    rfl
  have tb : ∀ q ∈ G.tab, H' q.1 ≠ none ∧ TabI (fun _ => False) H' q.1 q.2 := fun q hq => by
    have e := ktb _ _ (htb q hq)
    refine ⟨(by rw [e]; exact fun z => (nomatch z)), #[], e, True.intro, fun pos cv z => ?_⟩
    have z : codeAmong pos [] = some cv := z
    simp [codeAmong] at z
  show tG G _ _ _ _ _ _ ((L2.start (x0 :: x1 :: NR) [V.ref a]).set 1 (some (.ref p))) H'
  rw [hlen]
  refine ⟨⟨fun _ => False, H', some (p, b), fun a => H' a ≠ none, fun _ => False⟩, n0, _, _, ⟨by simp, fun i sv e => ?_, fun i sv x e ho => ?_, fun i j sv sv' x _ e _ ho => ?_, fun _ h => h.elim, fun _ _ e _ => e, fun z e => ?_, fun _ h => ⟨fun z => z, h⟩, (fun q hq => tb q hq), (fun _ _ e => nomatch e), fun _ h => h.elim, fun _ _ => rfl⟩, holds, ⟨?_, ?_, fun _ _ _ _ _ _ z => z.elim, fun _ _ _ _ _ _ z => z.elim⟩, fun _ _ _ _ _ _ _ _ z => z.elim⟩
  · match i, e with
    | 0, e => cases e; trivial
    | 1, e => cases e; exact ⟨(p, b), rfl, rfl⟩
    | i + 2, e =>
      have e : (List.replicate NR.length SV.un)[i]? = some sv := e
      rw [List.getElem?_replicate] at e
      split at e
      · cases e; trivial
      · cases e
  · exfalso
    match i, e with
    | 0, e => cases e; cases ho
    | 1, e => cases e; cases ho
    | i + 2, e =>
      have e : (List.replicate NR.length SV.un)[i]? = some sv := e
      rw [List.getElem?_replicate] at e
      split at e
      · cases e; cases ho
      · cases e
  · exfalso
    match i, e with
    | 0, e => cases e; cases ho
    | 1, e => cases e; cases ho
    | i + 2, e =>
      have e : (List.replicate NR.length SV.un)[i]? = some sv := e
      rw [List.getElem?_replicate] at e
      split at e
      · cases e; cases ho
      · cases e
  · cases e
    exact ⟨gp, fun z => z, fun z => z, (G.there gp).1, (G.there gp).2⟩
  · rintro ρ' _ k σ' S' H2 rfl p g I
    exact nomatch (show D.non = D.bl true from p)
  · rintro d _ k v σ' ρ' S' H2 rfl p g I r
    have p : d = D.bl true := p
    subst p
    cases r
    exact q H2
end PL

/-! d.pop(k), d.pop(k, x) as statements; k in d. -/
namespace PL
open PySem PySem.Spec L2
def dropD (kvs : List (Key × D)) (k : Key) : List (Key × D) := kvs.filter fun kv => decide (kv.1 ≠ k)
theorem RepK.drop {K : PySem.W.Frag} {S : Addr → Prop} {H : Hp} : ∀ {kvs : List (Key × D)} {kws : List (Key × V)} (k : Key), RepK K S H kvs kws → RepK K S H (dropD kvs k) (dropK kws k)
  | [], _, k, h => by
    have e : _ = [] := h
    rw [e]
    rfl
  | (j, x) :: xs, _, k, h => by
    obtain ⟨v, ws, rfl, r, q⟩ := h
    have ih := RepK.drop k q
    unfold dropD dropK at ih ⊢
    rw [List.filter_cons, List.filter_cons]
    by_cases e : j = k
    · simp only [e, ne_eq, not_true_eq_false, decide_false, Bool.false_eq_true, if_false]
      simpa using ih
    · simp only [ne_eq, e, not_false_eq_true, decide_true, if_true]
      exact ⟨v, _, rfl, r, by simpa using ih⟩
section
variable {G : PenK} {X : Cx} {Wx : WX} {γ : Type} {En : Enz γ} {ρ : Env} {rest : List Stmt} {m : W γ}
end
section
variable {G : PenK} {X : Cx} {Wx : WX}
end
end PL

set_option maxHeartbeats 2000000
/-! list(d.items()): each pair told by its object. -/
namespace PL
open PySem PySem.Spec PyProof.Rows L2 LiI
section
variable {X : Cx} {e : Expr} {te : TE} {p apos cpos pos : Pos}
end
end PL

/-! list(d.items()), by values. -/
namespace PL
open PySem PySem.Spec L2
section
variable {G : PenK} {K : PySem.W.Frag} {c : C} {σ : L2.St} {ρ : Env} {H H' : Hp} {n : Nt}
/-- several new things are laid at once -/
theorem SI.ext (I : SI G K c σ H ρ n) (k : ∀ b o, H b = some o → H' b = some o) (T : Addr → Prop) (hT : ∀ t, T t → H t = none ∧ H' t ≠ none) : SI G K (c.to fun a => c.S a ∨ T a) σ H' ρ n ∧ Grow c.S (fun a => c.S a ∨ T a) H H' := by
  have eq : ∀ a, H a ≠ none → H' a = H a := fun a h => by
    cases e : H a with
    | none => exact absurd e h
    | some o => exact k a o e
  have g : Grow c.S (fun a => c.S a ∨ T a) H H' := ⟨fun _ h => .inl h, fun a h => eq a (I.dom a h)⟩
  refine ⟨⟨I.len, fun i sv e => (I.slots i sv e).grow g fun a ea ho => eq a (I.own_there ⟨i, sv, e, ho, ea⟩), fun i sv a e ho es => ⟨fun z => z.elim (I.own i sv a e ho es).1 fun z => I.own_there ⟨i, sv, e, ho, es⟩ (hT a z).1, (I.own i sv a e ho es).2⟩, I.apart, fun a h => ?_, fun a o e hn => k a o (I.fr a o e hn), fun p e => ?_, fun a h => ⟨fun z => z.elim (I.no a h).1 fun z => (I.no a h).2 (I.freeOld (hT a z).1), (I.no a h).2⟩, fun q e => ⟨(I.tab q e).1, (I.tab q e).2.grow g (eq _ (I.tabN e).2.2)⟩, fun a nd e => ⟨(I.mu a nd e).1.grow g (eq _ (I.mu a nd e).1.there), fun z => Or.elim z (I.mu a nd e).2.1 fun z => (I.mu a nd e).1.there (hT a z).1, (I.mu a nd e).2.2⟩, I.mu0, I.mz⟩, g⟩
  · rcases h with h | h
    · rw [eq a (I.dom a h)]; exact I.dom a h
    · exact (hT a h).2
  · obtain ⟨h1, h2, h3, h4, h5⟩ := I.pen p e
    obtain ⟨k1, k2⟩ := G.there h1
    exact ⟨G.dep h1 (eq _ k1) (eq _ k2), fun z => z.elim h2 fun z => k1 (hT _ z).1, fun z => z.elim h3 fun z => k2 (hT _ z).1, h4, h5⟩
end
section
variable {G : PenK} {X : Cx} {Wx : WX}
end
end PL

namespace PL
open PySem PySem.Spec L2
/-- range of a written number, closed against unrolling -/
@[irreducible] def rngK (i : Int) : W (List Int) := rngI i
theorem rngK_eq (i : Int) : rngK i = rngI i := by unfold rngK; rfl
theorem w_rngK {G : PenK} {X : Cx} {Wx : WX} {tg e : Expr} {i : Int} (h : Wk G X Wx tg e (fun _ => bnd (bnd (ret (.int i)) rngD) fun ys => ret (ys.map .int))) : Wk G X Wx tg e (fun _ => bnd (rngK i) fun ys => ret (ys.map .int)) := by
  unfold rngK; exact h
end PL

/-! sorted of any list of pairs (text, int). -/
namespace PL
open PySem PySem.Spec PyProof.Rows L2
open SrtO hiding Str
section
variable {prog : Program} {w : World} {A : Around} {E : Value → Shared → Prop} {s : Shared}
end
section
variable {X : Cx}
end
section
variable {G : PenK} {X : Cx} {Wx : WX}
end
end PL

/-! What is never reached (raise); expressions as statements; {**d, k: v}; d.get(k, x); items of a list of one's own; while. -/
namespace PL
open PySem PySem.Spec PyProof.Rows L2
section
variable {G : PenK} {X : Cx} {Wx : WX} {γ : Type} {En : Enz γ} {ρ : Env} {rest : List Stmt} {m : W γ}
theorem sg_stuck {ss : List Stmt} : SG G X Wx ss ρ En stuck := weakSs pss_no fun Dn σ H ⟨c, n, P, PX, I, q, _⟩ => q
theorem sg_expr {e : Expr} {pos : Pos} {g : Env → W D} {m0 : W D} (h : E G X Wx e g) (hg : g (bor ρ) = m0) (hr : SG G X Wx rest ρ En m) (hs : swapsWith e none pos.line X.env = pure false := by rfl) : SG G X Wx (.Expr e pos :: rest) ρ En (bnd m0 fun _ => m) :=
  weakSs (pss_cons (ps_expr h hs) hr) fun Dn σ H ⟨c, n, P, PX, I, q, hgl, hx⟩ => by
    obtain ⟨I2, g2⟩ := I.lend
    subst hg
    refine tE.bnd (f := fun _ => m) I2 q (hx.grow g2).x fun d k' v S' H' p g I' hx' r => ?_
    obtain ⟨I3, g3⟩ := I.back g I'
    exact ⟨_, k', P, PX, I3, p, hgl.grow g3, hx.grow g3⟩
def svAt (ρ : Env) (i : Nat) : SV := (ρ[i]?).getD .un
/-! ### while -/
def whileT {J γ : Type} (t : J → W Bool) (bd : J → W (Step J γ)) (k : J → W γ) : Nat → J → W γ
  | 0, _ => stuck
  | f + 1, j => bnd (t j) fun b => if b = true then bnd (bd j) (forK k fun j' => whileT t bd k f j') else k j
def whileE {J γ : Type} (t : J → W Bool) (bd : J → W (Step J γ)) (k : J → W γ) (j : J) : W γ := fun n P PX => ∃ f, whileT t bd k f j n P PX
theorem sg_while {J : Type} {c : Expr} {body : List Stmt} {pos : Pos} {gt : Env → W Bool} {mt : J → W Bool} {emb : J → Env} {j0 : J} {bb : J → W (Step J γ)} {kk : J → W γ}
    (hp : PassesOwn (model X.prog X.w) X.A X.env X.xe) (ht : T G X Wx c gt) (hl : Le ρ (emb j0)) (hg : ∀ j, gt (bor (emb j)) = mt j) (hb : ∀ j, SG G X Wx body (emb j) (En.loop emb) (bb j)) (hr : ∀ j, SG G X Wx rest (emb j) En (kk j)) :
    SG G X Wx (.While c body [] pos :: rest) ρ En (whileE mt bb kk j0) :=
  weakSs (pss_cons (ps_while hp ht (pss_un hb)) (pss_un hr)) fun Dn σ H ⟨cc, n, P, PX, I, ⟨f0, q⟩, hgl, hx⟩ => by
    refine ⟨fun m σ2 H2 => ∃ S2 j2 k2, Grow cc.S S2 H H2 ∧ SI G X.K (cc.to S2) σ2 H2 (emb j2) k2 ∧ whileT mt bb kk m j2 k2 P PX, ⟨f0, cc.S, j0, n, .refl, I.le hl, q⟩, ?_⟩
    rintro m σ2 H2 ⟨S2, j2, k2, g2, I2, p2⟩
    cases m with
    | zero => exact False.elim p2
    | succ m =>
      obtain ⟨I3, g3⟩ := I2.lend
      have hx2 := hx.grow g2
      have hg2 := hgl.grow g2
      have p3 : bnd (gt (bor (emb j2))) (fun b => if b = true then bnd (bb j2) (forK kk fun j' => whileT mt bb kk m j') else kk j2) k2 P PX := by rw [hg]; exact p2
      refine tT.bnd (f := fun b => if b = true then bnd (bb j2) (forK kk fun j' => whileT mt bb kk m j') else kk j2) I3 p3 (hx2.grow g3).x fun b k4 S4 H4 p4 g4 I4 hx4 => ?_
      obtain ⟨I5, g5⟩ := I2.back g4 I4
      have hg5 := hg2.grow g5
      have hx5 := hx2.grow g5
      cases b with
      | false =>
        rw [if_neg (by decide)] at p4 ⊢
        exact ⟨j2, _, k4, P, PX, I5, p4, hg5, hx5⟩
      | true =>
        rw [if_pos rfl] at p4 ⊢
        refine ⟨fun σ' H' => ∃ S3 j3 k3, Grow cc.S S3 H H' ∧ SI G X.K (cc.to S3) σ' H' (emb j3) k3 ∧ whileT mt bb kk m j3 k3 P PX, fun σ' H' q => ⟨m, Nat.lt_succ_self m, q⟩, ?_⟩
        have gg : Grow cc.S (fun a => S4 a ∧ ¬ ownS (emb j2) σ2 a) H H4 := g2.trans g5
        refine ⟨j2, _, k4, fun o k => forK kk (fun j' => whileT mt bb kk m j') o k P PX, PX, I5, p4, ⟨?_, ?_, ?_, ?_⟩, hx5⟩
        · rintro ρ5 _ k5 σ5 S5 H5 ⟨j', rfl, le⟩ p6 g6 I6
          exact ⟨S5, j', k5, gg.trans g6, I6.le le, p6⟩
        · rintro d5 _ k5 v5 σ5 ρ5 S5 H5 ⟨mg, hrt, rfl⟩ p6 g6 I6 r6
          exact hg5.2.1 d5 mg k5 v5 σ5 ρ5 S5 H5 hrt p6 g6 I6 r6
        · rintro ρ5 _ k5 σ5 S5 H5 ⟨j', rfl, le⟩ p6 g6 I6
          exact ⟨j', _, k5, P, PX, I6.le le, p6, hg5.grow g6, hx5.grow g6⟩
        · rintro ρ5 _ k5 σ5 S5 H5 ⟨j', rfl, le⟩ p6 g6 I6
          exact ⟨S5, j', k5, gg.trans g6, I6.le le, p6⟩
end
/-! ### {**d, k: v} -/
section
variable {X : Cx}
end
section
variable {G : PenK} {X : Cx} {Wx : WX}
theorem OKx.blk {c : C} {σ : L2.St} {ρ : Env} {H : Hp} {n : Nt} {D : Addr} {o : HO} {PX : Exc → Nt → Prop} (I : SI G X.K c σ H ρ n) (h0 : c.H0 D = none) (hx : OKx G X Wx c σ ρ H PX) : OKx G X Wx (c.blk D o) σ ρ H PX :=
  fun x k S' H' cls dd px g J r => hx x k S' H' cls dd px g (SI.restore (vs := []) I h0 J g (fun _ _ => rfl) (fun _ _ => rfl) rfl).1 r
/-! ### d.get(k, x) -/
/-! ### items of a list of one's own -/
def nmO (ρ : Env) (i : Nat) : W (List D) := match ρ[i]? with
  | some (.own xs) => ret xs
  | _ => stuck
theorem nmO_inv {α : Type} {ρ : Env} {i : Nat} {n : Nt} {f : List D → W α} {P : α → Nt → Prop} {PX : Exc → Nt → Prop} (h : bnd (nmO ρ i) f n P PX) : ∃ xs, ρ[i]? = some (.own xs) ∧ f xs n P PX := by
  have h : nmO ρ i n (fun a k => f a k P PX) PX := h
  unfold nmO at h
  cases e : ρ[i]? with
  | none => rw [e] at h; exact False.elim h
  | some s =>
    rw [e] at h
    cases s with
    | own xs => exact ⟨xs, rfl, h⟩
    | _ => exact False.elim h
/-! ### a tuple of texts among the globals -/
end
end PL

/-! errors: a class over any built-in class, whose own __init__ keeps its one argument in a field. -/
namespace PL
open PySem PySem.Spec PyProof.Rows L2 PySem.Calls Builtin.ObjectAttr
/-- what the written part says of such a class -/
structure OexB (K : PySem.W.Frag) (C : Addr) (bmB : List Value) (newId : String) : Prop where
  ini : PySem.W.excInitIn K C bmB newId = true
  ovr : PySem.W.excOver K C bmB = true
  hd : PySem.W.hasDictIn K C = true
  sa : PySem.W.findIn K (.ref C) "__setattr__" = some (some (.builtin "object.__setattr__"))
  exC : PySem.W.subIn K (.ref C) (.type "BaseException") = some true
  tyC : PySem.W.typeIn K (.ref C) = some (.type "type")
  kC : PySem.W.keepIn K (.ref C) = true
section
variable {prog : Program} {w : World} {A : Around} {R : Result → Shared → Prop} {hp : Heap} {g : Array GenState} {d : Drawn} {t : Nat} {os : OsState} {B : String} {bmB : List Value}
theorem exc_osaB {K : W.Frag} {name : Str} {tk : Tok} {v : Value} {x C : Addr} {fv : Array Value} (SF : StoreFacts B bmB "object.__setattr__" "object")
    (X : K.In hp) (hx : hp.get? x = some { cls := .ref C, data := .fields fv }) (ho : W.excOver K C bmB = true) (hh : W.hasDictIn K C = true) (ha : W.findIn K (.ref C) name = some none)
    (hq : ∀ h' tk' dx, (∀ b o, b ≠ x → hp.get? b = some o → h'.get? b = some o) → hp.objs.size ≤ dx → dx ≠ x → h'.get? x = some { cls := .ref C, dict := some dx, data := .fields fv } →
      h'.Ns1 dx (fun y => if y = name then some v else none) → R (.ok (.ret .none)) ⟨h', g, d, tk', os⟩) :
    codeAny (model prog w) A (.call (.builtin "object.__setattr__") ⟨[.ref x, .str name tk, v], []⟩) R ⟨hp, g, d, t, os⟩ := by
  refine W.osa_openX (r := none) (od := none) SF X ⟨hx, rfl, rfl, trivial⟩ ho (by unfold W.takerIn; rw [ha]; rfl) fun b => ?_
  obtain ⟨cd, hc, hd⟩ := W.any_some hh
  have hxs : x ≠ hp.objs.size := Nat.ne_of_lt (Heap.lt_size hx)
  have hcls : W.Looks (model prog w) hp (classData C) cd := W.looks_clsIn X hc
  obtain ⟨nm, bs, mro, ns, qn, hd', sn, sb, ab, col, del⟩ := cd
  dsimp only at hd
  subst hd
  show wpAny _ _ (storeInOwnDict (.ref x) (.ref C) (.str name tk) name v b) _ _ _
  unfold storeInOwnDict ownDictForStores
  repeat (first | with_reducible refine HandSPX.store_in_new ?_ ?_ | with_reducible refine wpAny_loadPart_at hx ?_ | with_reducible refine hcls.at ?_ | wp_step)
  · exact ⟨_, #[], _, (Heap.get?_update_ne _ _ _ _ hxs.symm).trans (Heap.get?_push_at rfl rfl), rfl, fun e he => absurd he (by simp), fun _ => rfl⟩
  · intro h' tk' hn' hs
    have hx₁ : (hp.push { cls := .type "dict", data := .dict #[] }).get? x = some { cls := .ref C, data := .fields fv } := Heap.get?_push_of_some _ hx
    refine hq h' tk' hp.objs.size (fun b o hb ho => ?_) (Nat.le_refl _) hxs.symm ?_ hn'
    · exact (hs.2 b (Nat.ne_of_lt (Heap.lt_size ho))).trans ((Heap.get?_update_ne _ _ _ _ hb).trans (Heap.get?_push_of_some _ ho))
    · exact (hs.2 x hxs).trans (Heap.get?_update_self _ hx₁ rfl)
end
section
variable {X : Cx} {pins : List (Addr × Obj)} {σ : L2.St} {H : Hp} {s : Shared} {a C : Addr} {f : Str} {y : V} {u : Value} {Q : Unit → Shared → Prop} {E : Value → Shared → Prop} {A : Around} {B newId : String} {bmB : List Value}
/-- self.f = y, the first one -/
theorem ost_newB (SF : StoreFacts B bmB "object.__setattr__" "object") (T : OexB X.K C bmB newId) (I : Inv X pins σ H s) (e : H a = some (exo a C none)) (hno : PySem.W.findIn X.K (.ref C) f = some none) (ry : RelV y u)
    (h : ∀ dx s', H dx = none → dx ≠ a → Inv X pins σ (upd (upd H dx (exd dx [(f, y)])) a (exo a C (some dx))) s' → Q () s') : wpAny (model X.prog X.w) A (setAttr (.ref a) f u) Q E s := by
  obtain ⟨t1, ho⟩ := exo_at I.hok e
  obtain ⟨hp, g, d, t, os⟩ := s
  refine PySem.W.set_plain I.kIn (ox := { cls := .ref C, dict := none, data := .fields #[.ref t1, .none, .none, .none, .bool false, .none] }) (od := none) ⟨ho, rfl, rfl, trivial⟩ T.sa ?_
  refine exc_osaB SF I.kIn ho T.ovr T.hd hno (fun h' tk' dx k dn dne hx hn => ?_)
  have hnd : H dx = none := I.hok.fresh dn
  have old : ∀ {b : Addr} {o : Obj}, hp.get? b = some o → b ≠ dx := fun {b o} q z => absurd (Heap.lt_size (z ▸ q)) (Nat.not_lt.mpr dn)
  have ntr : ∀ {b : Addr}, H b = none → b ≠ a := fun {b} n => fun z => by rw [z, e] at n; cases n
  have sm : ∀ {b : Addr} {v : HO}, H b = some v → v ≠ exo a C none → upd (upd H dx (exd dx [(f, y)])) a (exo a C (some dx)) b = some v := fun {b v} q nv => by
    rw [upd_ne fun z => by rw [z, e] at q; exact nv (Option.some.inj q).symm, upd_ne (ne_of_none q hnd)]
    exact q
  refine h dx _ hnd dne (I.un (t' := tk') ⟨fun b o q n _ _ => k b o (ntr n) q, fun b o q n _ _ => ⟨o.slots, k b o (ntr n) q⟩, fun b o q n _ => (by rw [upd_ne (ntr n), upd_ne (old q)]; exact n), fun b o q _ => ?_, fun b xs q => sm q fun z => exo_tup z.symm, fun b o v q => sm q fun z => exo_frz z.symm, fun b ps q => ⟨#[], by rw [sm q fun z => exo_tbl z.symm]; simp⟩⟩ fun b o q => ?_)
  · rcases Classical.em (b = a) with hb | hb
    · exact ⟨_, by rw [hb]; exact hx⟩
    · exact ⟨o, k b o hb q⟩
  · rcases Classical.em (b = a) with hb | hb
    · subst hb
      rw [upd_same] at q
      cases q
      exact exo_ok hx
    · rw [upd_ne hb] at q
      rcases Classical.em (b = dx) with hd | hd
      · subst hd
        rw [upd_same] at q
        cases q
        exact exd_ok hn (relO_put (fs := []) ry fun g => True.intro)
      · rw [upd_ne hd] at q
        exact (I.hok b o q).stay (fun c v hc z => k c v (hc.elim (fun hc => hc ▸ hb) fun hc => at_ne e hc exo_own) z) (fun c hc => sm hc fun z => exo_own z.symm) fun c xs hc => sm hc fun z => exo_tup z.symm
end
section
variable {X : Cx} {o e : Expr} {to te : TE} {f : Str} {p p' pos : Pos} {B newId initId : String} {bmB : List Value}
def one1 (Q : VK) : List V → Hp → Prop
  | [y], H => Q y H
  | _, _ => False
theorem one1_inv {Q : VK} {vs : List V} {H : Hp} (h : one1 Q vs H) : ∃ y, vs = [y] ∧ Q y H := by
  unfold one1 at h
  split at h
  · exact ⟨_, rfl, h⟩
  · exact h.elim
/-- self.f = e, in an __init__: the first field -/
theorem ps_ostB {C : Addr} (SF : StoreFacts B bmB "object.__setattr__" "object") (T : OexB X.K C bmB newId) (hno : PySem.W.findIn X.K (.ref C) f = some none) (ho : PE X o to) (he : PE X e te) (hs : swapsWith e (some (.Attribute o f p')) pos.line X.env = pure false := by rfl) :
    PS X (.Assign [.Attribute o f p'] e pos) (fun D σ H => te σ H fun y H1 => to σ H1 fun x H2 => ∃ a : Addr, x = .ref a ∧ H2 a = some (exo a C none) ∧ ∀ dx, H2 dx = none → dx ≠ a → D.nx σ (upd (upd H2 dx (exd dx [(f, y)])) a (exo a C (some dx)))) := by
  refine ⟨fun pins s σ H D I h => ?_⟩
  refine plainObj_wpAny_Assign_Attribute (thn (he.run pins s σ H _ I h) fun v s1 ⟨y, H1, I1, r1, q1⟩ => thn (ho.run pins s1 σ H1 _ I1 q1) fun u s2 ⟨x, H2, I2, r2, a, ex, ea, q⟩ => ?_) hs
  subst ex
  obtain rfl : u = Value.ref a := r2
  exact ost_newB SF T I2 ea hno r1 fun dx s' n ne J => ⟨σ, _, J, q dx n ne⟩
def spIni (C : Addr) (f : Str) : Sp := fun vs H Q _ => ∃ (a : Addr) (y : V), vs = [.ref a, y] ∧ H a = some (exo a C none) ∧ ∀ dx, H dx = none → dx ≠ a → Q .non (upd (upd H dx (exd dx [(f, y)])) a (exo a C (some dx)))
/-- what is known of a class with such an __init__ -/
structure IniK (K : PySem.W.Frag) (C fI : Addr) (fd : FuncData) (bmB : List Value) (newId : String) (q : Str) (st : Stmt) (sn vn f : Str) : Prop where
  T : OexB K C bmB newId
  iC : PySem.W.findIn K (.ref C) "__init__" = some (some (.ref fI))
  tI : PySem.W.typeIn K (.ref fI) = some (.type "function")
  F : Fun K "__init__" q st fI fd
  S : FnScope [sn, vn] [sn, vn] (defScope st)
  sb : ∃ p1 p2 p3 p4, defBody st = [.Assign [.Attribute (.Name sn p1) f p2] (.Name vn p3) p4]
  hn : (sn == ("__debug__" : Str)) = false ∧ (sn == ("__classdict__" : Str)) = false ∧ (vn == ("__debug__" : Str)) = false ∧ (vn == ("__classdict__" : Str)) = false
  vs : (defScope st).names.lookup sn = some .local ∧ (defScope st).names.lookup vn = some .local
  no : PySem.W.findIn K (.ref C) f = some none
  bd : Binds K fd [sn, vn] []
theorem ini_ok {P : Program} {w : World} {K : PySem.W.Frag} {mg : Str → Option Value} {base : Heap} {C fI : Addr} {fd : FuncData} {q : Str} {st : Stmt} {sn vn : Str} (SF : StoreFacts B bmB "object.__setattr__" "object") (N : IniK K C fI fd bmB newId q st sn vn f) :
    FnOk P w K mg base (L2.CX P w) 1 fI fd [sn, vn] (spIni C f) := by
  refine Fun.okX N.F N.S (fun vs H Q E ⟨a, y, e, _⟩ => by rw [e]; rfl) fun cdv A outer s H vs Q E hr ⟨a, y, e, ea, h⟩ => ?_
  subst e
  obtain ⟨p1, p2, p3, p4, hb⟩ := N.sb
  rw [hb]
  exact ⟨_, pss_one (ps_ostB SF N.T N.no (pe_var (i := 0) rfl (.inl N.vs.1) N.hn.1 N.hn.2.1) (pe_var (i := 1) rfl (.inl N.vs.2) N.hn.2.2.1 N.hn.2.2.2)), _, rfl, _, rfl, a, rfl, ea, h⟩
theorem pmk_one {x : Str} {C fI : Addr} {fd : FuncData} {q : Str} {st : Stmt} {sn vn : Str} (SF : StoreFacts B bmB "object.__setattr__" "object") (FB : ExcBaseFacts B newId initId bmB) (N : IniK X.K C fI fd bmB newId q st sn vn f) (hr : Room 2 X.A) (hg : Gl X x) (hm : X.mg x = some (.ref C)) (ha : PE X e te)
    (hdb : (x == ("__debug__" : Str)) = false := by decide) (he : starEach [e] X.env = (false, eval e X.env) :: starEach [] X.env := by rfl) (hpl : (backTo pos (starEach [] X.env)).any (·.1) = false := by rfl) :
    PMk X (.Call (.Name x p) [e] [] pos) (fun σ H Q => te σ H fun y H1 => ∀ d, H1 d = none → Q (.ref C) (some d) (upd H1 d (.xd [(f, y)]))) := by
  intro pins s σ H Q I h
  refine wpAny_Call_Name_kw (ld_glob I hg hm ?_ hdb)
  refine PySem.W.callWith_K (h₀ := X.base) I.ok.mod.kin N.T.kC (thn ((pa_cons ha pa_nil he).run pos pins s σ H (one1 fun y H1 => ∀ d, H1 d = none → Q (.ref C) (some d) (upd H1 d (.xd [(f, y)]))) I h) fun us s1 ⟨vs, H1, I1, r1, q1⟩ => ⟨I1.kIn, ?_⟩) he hpl
  obtain ⟨y, ev, q1⟩ := one1_inv q1
  subst ev
  show wpAny _ _ (call (.ref C) us) _ _ _
  obtain ⟨nm, nsN, qn, bs, bm, hdct, sn', sub, ab, col, dd, k0, k1, k2, k3, k5, hC, hT⟩ := PySem.W.excInit_of I1.kIn N.T.ini
  have F1 := ini_ok (P := X.prog) (w := X.w) (mg := X.mg) (base := X.base) SF N
  cases r1 with
  | @cons _ u0 _ ur ra rw' =>
    cases rw'
    obtain ⟨hp, g, dr, tk, os⟩ := s1
    have hsz : hp.objs.size ≤ hp.objs.size + 1 := Nat.le_succ _
    have hn : H1 (hp.objs.size + 1) = none := I1.hok.fresh hsz
    have kk : ∀ b o, hp.get? b = some o → ((hp.push (PySem.W.kdv_tup [u0])).push (PySem.HandSPX.excO C hp.objs.size)).get? b = some o := fun b o e => Heap.get?_push_of_some _ (Heap.get?_push_of_some _ e)
    have hget : ((hp.push (PySem.W.kdv_tup [u0])).push (PySem.HandSPX.excO C hp.objs.size)).get? (hp.objs.size + 1) = some (PySem.HandSPX.excO C hp.objs.size) := by heap_get
    have I2 : Inv X pins σ (upd H1 (hp.objs.size + 1) (exo (hp.objs.size + 1) C none)) ⟨(hp.push (PySem.W.kdv_tup [u0])).push (PySem.HandSPX.excO C hp.objs.size), g, dr, tk, os⟩ :=
      I1.laid (t' := tk) (a := hp.objs.size + 1) (o := exo (hp.objs.size + 1) C none) (h' := (hp.push (PySem.W.kdv_tup [u0])).push (PySem.HandSPX.excO C hp.objs.size)) kk hsz (exo_ok hget)
    have r2 : Vals [V.ref (hp.objs.size + 1), y] [Value.ref (hp.objs.size + 1), u0] := .cons rfl (.cons ra .nil)
    refine wpAny_call (PySem.HandSPX.call_own FB hT hC (PySem.W.looks_findIn I1.kIn N.iC) (fun self => PySem.W.bind_fn I1.kIn self N.tI) (by show 1 ≤ sizeLine; rw [sizeLine_eq]; omega)
      (codeAny_mono (F1.run _ X.stack _ _ ⟨[Value.ref (hp.objs.size + 1), u0], []⟩ [Value.ref (hp.objs.size + 1), u0] _ (fun v H2 => v = .non ∧ ∃ d, H1 d = none ∧ d ≠ hp.objs.size + 1 ∧ H2 = upd (upd (upd H1 (hp.objs.size + 1) (exo (hp.objs.size + 1) C none)) d (exd d [(f, y)])) (hp.objs.size + 1) (exo (hp.objs.size + 1) C (some d))) (fun _ _ _ => False) (hr.make C [u0] []) (I2.env0.make C [u0] []) (N.bd _ [Value.ref (hp.objs.size + 1), u0] I2.kIn rfl) r2
        ⟨hp.objs.size + 1, y, rfl, upd_same, fun dx h1 h2 => ⟨rfl, dx, (upd_ne h2).symm.trans h1, h2, rfl⟩⟩) fun r s' hq' => ?_))
    cases r with
    | error er => exact (passL (X := X) pins σ _ _ er s' I2 hq')
    | ok fl =>
      cases fl with
      | ret u =>
        obtain ⟨v, H2, os2, bare2, un2, hok2, rv, ev, d, hd1, hda, rfl⟩ := hq'
        subst ev
        obtain ⟨h2, g2, d2, t2, os'⟩ := s'
        have q2 := q1 d hd1
        have eH : upd (del (upd (upd (upd H1 (hp.objs.size + 1) (exo (hp.objs.size + 1) C none)) d (exd d [(f, y)])) (hp.objs.size + 1) (exo (hp.objs.size + 1) C (some d))) (hp.objs.size + 1)) d (.xd [(f, y)]) = upd H1 d (.xd [(f, y)]) := by
          funext b
          rcases Classical.em (b = d) with e | e
          · rw [e, upd_same, upd_same]
          · rw [upd_ne e, upd_ne e]
            rcases Classical.em (b = hp.objs.size + 1) with e2 | e2
            · rw [e2, del_same, hn]
            · rw [del_ne e2, upd_ne e2, upd_ne e, upd_ne e2]
        exact ⟨rv, mk_end (raises_own N.T.exC N.T.tyC) I1 hsz kk un2 hok2 os2 bare2 upd_same (by rw [upd_ne hda, upd_same]) hd1 (by rw [eH]; exact q2)⟩
      | next => exact False.elim hq'
      | brk => exact False.elim hq'
      | cont => exact False.elim hq'
end
end PL

/-! try: .. except (X, Y, ..) as e: name = e. The error is kept in the name. -/
namespace PL
open PySem PySem.Spec PyProof.Rows L2
/-! ### the classes of a clause -/
theorem forIn_pass {M : Model} {A : Around} {E : Value → Shared → Prop} {s : Shared} {f : Value → PUnit → Sem (ForInStep PUnit)} : ∀ (cs : List Value) (Q : PUnit → Shared → Prop), (∀ c ∈ cs, ∀ (Q : ForInStep PUnit → Shared → Prop), Q (.yield ⟨⟩) s → wpAny M A (f c ⟨⟩) Q E s) → Q ⟨⟩ s → wpAny M A (forIn cs PUnit.unit f) Q E s
  | [], Q, _, q => by rw [List.forIn_nil]; exact wpAny_pure q
  | c :: cs, Q, h, q => by
    rw [List.forIn_cons]
    exact wpAny_bind (h c List.mem_cons_self _ (forIn_pass cs Q (fun c' hc => h c' (List.mem_cons_of_mem _ hc)) q))
theorem forIn_hit {M : Model} {A : Around} {E : Value → Shared → Prop} {s : Shared} {β : Type} {r0 r1 : β} {hit : Value → Bool} {f : Value → β → Sem (ForInStep β)} : ∀ (cs : List Value) (Q : β → Shared → Prop), (∀ c ∈ cs, ∀ (Q : ForInStep β → Shared → Prop), Q (if hit c = true then .done r1 else .yield r0) s → wpAny M A (f c r0) Q E s) → Q (if cs.any hit = true then r1 else r0) s → wpAny M A (forIn cs r0 f) Q E s
  | [], Q, _, q => by rw [List.forIn_nil]; exact wpAny_pure q
  | c :: cs, Q, h, q => by
    rw [List.forIn_cons]
    refine wpAny_bind (h c List.mem_cons_self _ ?_)
    rw [List.any_cons] at q
    cases e : hit c with
    | true =>
      rw [e, Bool.true_or] at q
      exact wpAny_pure q
    | false =>
      rw [e, Bool.false_or] at q
      exact forIn_hit cs Q (fun c' hc => h c' (List.mem_cons_of_mem _ hc)) q
def hitC (K : W.Frag) (cls c : Value) : Bool := (W.exmOne K cls c).getD false
theorem exmAny_mem {K : W.Frag} {cls : Value} : ∀ {cs : List Value} {b : Bool}, W.exmAny K cls cs = some b → (∀ c ∈ cs, W.exmOne K cls c = some (hitC K cls c)) ∧ b = cs.any (hitC K cls)
  | [], b, h => by
    have h : some false = some b := h
    cases h
    exact ⟨fun _ z => (by cases z), rfl⟩
  | c :: cs, b, h => by
    obtain ⟨b1, d1, h1, h2, h3⟩ := W.exmAny_cons h
    obtain ⟨k1, k2⟩ := exmAny_mem h2
    have e1 : hitC K cls c = b1 := by unfold hitC; rw [h1]; rfl
    refine ⟨fun c' hc => ?_, ?_⟩
    · rcases List.mem_cons.mp hc with e | e
      · rw [e, e1, h1]
      · exact k1 c' e
    · rw [h3, k2, List.any_cons, e1]
theorem exm_tupN {M : Model} {K : W.Frag} {cs : List Value} {cls : Value} {tp e : Addr} {b : Bool} {h : Heap} (X : K.In h) (LT : W.Looks M h (typeOf (.ref e)) cls) (hp : h.get? tp = some { cls := .type "tuple", data := .seq cs.toArray }) (hx : W.exmAny K cls cs = some b) :
    W.Looks M h (excMatches (.ref e) (.ref tp)) b := by
  intro A Q E s k₀ q
  obtain ⟨hh, g, d, tk, os⟩ := s
  have k : ∀ b o, h.get? b = some o → hh.get? b = some o := k₀
  have LT0 : W.Looks M h (isInstance (.ref tp) (.type "tuple")) true := ((W.Looks.ld hp).andThen .now).andThen (W.Looks.of_pure isSubtype_tuple_tuple)
  obtain ⟨k1, k2⟩ := exmAny_mem hx
  have hp' := k _ _ hp
  subst k2
  unfold excMatches
  refine wpAny_bind ((LT0.keeps k).at ?_)
  dsimp only
  rw [if_pos rfl]
  first
    | refine wpAny_bind (wpAny_seqItems hp' rfl ?_)
    | refine wpAny_bind (wpAny_bind (wpAny_seqItems hp' rfl (wpAny_pure ?_)))
  dsimp only [Option.getD_some, Option.getD]
  refine wpAny_bind (wpAny_pure ?_)
  refine wpAny_bind (forIn_pass _ _ (fun c hc Q q => ?_) ?_)
  · obtain ⟨e1, _⟩ := W.exm_cls (M := M) X (k1 c hc)
    refine wpAny_bind ((e1.keeps k).at ?_)
    rw [if_neg (show ¬ ((!true) = true) from by decide)]
    exact wpAny_pure q
  · refine wpAny_bind ((LT.keeps k).at ?_)
    refine wpAny_bind (forIn_hit (hit := hitC K cls) (r1 := (some true, ⟨⟩)) _ _ (fun c hc Q q => ?_) ?_)
    · obtain ⟨_, S1⟩ := W.exm_cls (M := M) X (k1 c hc)
      refine wpAny_bind ((S1.keeps k).at ?_)
      cases eh : hitC K cls c with
      | true =>
        rw [eh] at q
        exact wpAny_pure q
      | false =>
        rw [eh] at q
        exact wpAny_pure q
    · cases eh : cs.any (hitC K cls) with
      | true =>
        rw [eh] at q
        exact wpAny_pure q
      | false =>
        rw [eh] at q
        exact wpAny_pure q

/-! ### the names of a clause -/
abbrev Nm := Str × Pos × Value
def namesE (xs : List Nm) : List Expr := xs.map fun p => .Name p.1 p.2.1
theorem names_run {X : Cx} {E : Value → Shared → Prop} {pins : List (Addr × Obj)} {s : Shared} {σ : L2.St} {H : Hp} {pos : Pos} (I : Inv X pins σ H s) : ∀ (xs : List Nm) (Q : List Value → Shared → Prop), (∀ p ∈ xs, Names X p.1 p.2.2) → Q (xs.map (·.2.2)) s →
    wpAny (model X.prog X.w) X.A (spliced (backTo pos (starEach (namesE xs) X.env))) Q E s
  | [], Q, _, q => Calls.spliced_nil q
  | p :: xs, Q, h, q => by
    show wpAny _ _ (spliced ((false, eval (.Name p.1 p.2.1) X.env) :: backTo pos (starEach (namesE xs) X.env))) _ _ s
    have go : wpAny (model X.prog X.w) X.A (spliced (backTo pos (starEach (namesE xs) X.env))) (fun vs s₂ => Q (p.2.2 :: vs) s₂) E s := names_run I xs _ (fun p' hp => h p' (List.mem_cons_of_mem _ hp)) q
    obtain ⟨hg, hd, hm | ⟨hm, hv, hn⟩⟩ := h p List.mem_cons_self
    · exact Calls.spliced_cons (ld_glob I hg hm go hd)
    · exact Calls.spliced_cons (ld_blt I hg hm hv go hn hd)
theorem flyZ_push {B h : Heap} {l : List PySem.Env} {e : Addr} {Z : Obj → Prop} (o : Obj) (x : HandSPX.FlyingZ B l e Z h) : HandSPX.FlyingZ B l e Z (h.push o) := by
  obtain ⟨h1, h2, h3, oe, vs, T, oT, ts, k1, k2, k3, k4, k5, k6, k7, k8, k9⟩ := x
  exact ⟨fun b u e => Heap.get?_push_of_some _ (h1 b u e), h2, h3.of_keeps fun b u e _ => ⟨u, Heap.get?_push_of_some _ e, rfl⟩, oe, vs, T, oT, ts, Heap.get?_push_of_some _ k1, k2, k3, k4, k5, k6, Heap.get?_push_of_some _ k7, k8, k9⟩
theorem errO_ok {P : Program} {w : World} {H : Hp} {h : Heap} {a : Addr} {cls : Value} {dd : Option Addr} {oe : Obj} {vs : Array Value} (e : h.get? a = some oe) (z : Zc cls dd oe) (d : oe.data = .fields vs) : ObjOk P w H h a (ErrO cls dd a) :=
  ⟨⟨oe, vs, e, z, d⟩, ⟨oe, e⟩, fun _ _ ⟨o, v, q, r⟩ k => ⟨o, v, k o q, r⟩⟩
/-- what the clause wishes of an error of the body -/
def wKeepE (K : PySem.W.Frag) (cs : List Value) (i i2 : Nat) (D : Ends) : WX := fun cls d σ H =>
  PySem.W.exmAny K cls cs = some true ∧ ∀ a, H a = none → D.nx (((σ.set i (some (.ref a))).set i2 (some (.ref a))).set i none) (upd H a (ErrO cls d a))
section
variable {X : Cx} {n cn : Str} {xs : List Nm} {i i2 : Nat} {body : List Stmt} {kx : Nat} {tp p1 p2 p3 pos pos' : Pos} {tb : WX → TS}
theorem ps_try_keep (hs : X.stack = X.env :: X.outer) (hf : X.env.frame = some X.env.locals) (hN : X.N.Nodup) (hi : X.N[i]? = some n) (hln : X.env.kindOf n = some .local) (hi2 : X.N[i2]? = some cn) (hl2 : X.env.kindOf cn = some .local) (hz : xs.length ≤ sizeLine) (hc : ∀ p ∈ xs, Names X p.1 p.2.2)
    (hdn : (n == ("__debug__" : Str)) = false) (hcn : (n == ("__classdict__" : Str)) = false)
    (hb : ∀ (W : WX) (pn : List (Addr × Obj)) (xe : Value → Shared → Prop), Takes (X.tr pn xe) W → PassesOwn (model X.prog X.w) X.A X.env xe → PSs (X.tr pn xe) body (tb W)) :
    PS X (.Try body [.ExceptHandler (some (.Tuple (namesE xs) kx tp)) (some n) [.Assign [.Name cn p1] (.Name n p2) p3] pos'] [] [] pos) (fun D σ H => tb (wKeepE X.K (xs.map (·.2.2)) i i2 D) D σ H) := by
  refine ⟨fun pins s σ H D I h => ?_⟩
  have ok := I.ok
  have hfr : X.A.frames = some (X.env :: X.outer) := by rw [ok.frames, hs]
  have hloc : Loc X.env.scope n := .inl hln
  refine wpAny_Try_except ?_
  refine wpAny_mono ((hb (wKeepE X.K (xs.map (·.2.2)) i i2 D) (X.pn ++ pins) (fun e s₁ => wpAny (model X.prog X.w) X.A (noteFrame e X.env) (fun _ s₂ => wpAny (model X.prog X.w) X.A (setFlight e none) (fun _ s₃ =>
    wpAny (model X.prog X.w) X.A (handleBy e X.env [.ExceptHandler (some (.Tuple (namesE xs) kx tp)) (some n) [.Assign [.Name cn p1] (.Name n p2) p3] pos']) (SP X pins D) X.xe s₃) X.xe s₂) X.xe s₁) (fun u s' xx => ?_) PassesOwn.looking).run [] s σ H D (I.toTry _) h) (fun f s1 hsp => ?_) (fun e s1 he => he)
  · obtain ⟨a, B, sI, pins', σ', H', cls, d, rfl, J', nb, up, sky, na, os, ag, hb1, hyes⟩ := xx
    have J : Inv X pins σ' H' sI := J'.ofTry ok
    have sky' : Sky B (X.env :: X.outer) a (Zc cls d) X.env.locals s'.heap := by rw [← hs]; exact sky
    show wpAny (model X.prog X.w) X.A (noteFrame (.ref a) X.env) _ _ _
    refine Sky.land Zc.steady hfr hf sky' fun h3 fl3 up3 => ?_
    have J3 : Inv X pins σ' H' { s' with heap := h3 } := J.landed nb fl3.1 (up.trans up3) os ag
    obtain ⟨oe3, vs3, he3, hz3, hd3⟩ := fl3.there
    have nfr : a ∉ frs (X.env :: X.outer) := fun hm => by
      obtain ⟨_, o', e', hnf⟩ := fl3.2.2.1.mem hm
      rw [he3] at e'; cases e'
      exact hnf _ hd3
    have nL : a ≠ X.env.locals := fun z => nfr (List.mem_filterMap.mpr ⟨X.env, List.mem_cons_self, by rw [hf, z]⟩)
    have nF : a ∉ X.fs := fun hm => by
      obtain ⟨e, he, q⟩ := List.mem_filterMap.mp hm
      exact nfr (List.mem_filterMap.mpr ⟨e, List.mem_cons_of_mem _ he, q⟩)
    have S3 := J3.suite he3 hd3 na nL nF
    refine wpAny_handleBy_cons (codeAny_handlers_test ?_) (by intro q; cases q)
    refine wpAny_Tuple_spliced (names_run (X := X.suite a ((a, oe3) :: (X.pn ++ pins))) S3 xs _ (fun p hp => hc p hp) ⟨by rw [List.length_map]; exact hz, ?_⟩)
    have flP := flyZ_push { cls := .type "tuple", data := .seq (xs.map (·.2.2)).toArray } fl3
    have upP : s'.heap.UpToSlots (h3.push { cls := .type "tuple", data := .seq (xs.map (·.2.2)).toArray }) := up3.trans (Heap.UpToSlots.of_keeps fun b o e => Heap.get?_push_of_some _ e)
    have heP : (h3.push { cls := .type "tuple", data := .seq (xs.map (·.2.2)).toArray }).get? a = some oe3 := Heap.get?_push_of_some _ he3
    have LT : PySem.W.Looks (model X.prog X.w) (h3.push { cls := .type "tuple", data := .seq (xs.map (·.2.2)).toArray }) (typeOf (.ref a)) cls := fun A Q E s k q => wpAny_typeOf_ref (k _ _ heP) (by rw [hz3.1]; exact q)
    have KP : X.K.In (h3.push { cls := .type "tuple", data := .seq (xs.map (·.2.2)).toArray }) := fun b o e => Heap.get?_push_of_some _ (J3.kIn b o e)
    have LM := exm_tupN (M := model X.prog X.w) KP LT (Heap.get?_push_size _ rfl) hb1
    refine LM.here ?_
    refine codeAny_handlers_suite_as ?_
    refine HandSPX.lands_againZ flP fun h4 fl4 up4 => ?_
    obtain ⟨oe4, vs4, he4, hz4, hd4⟩ := fl4.there
    -- the error is told from now on
    obtain ⟨G4, g1, g2⟩ := restrict h4 fun b => decide (b ≠ a)
    have gk : ∀ b, b ≠ a → G4.get? b = h4.get? b := fun b hb => g1 b (decide_eq_true hb)
    have ga : G4.get? a = none := g2 a (decide_eq_false fun z => z rfl)
    have gs : ∀ b o, G4.get? b = some o → h4.get? b = some o := fun b o e => by
      rcases Classical.em (b = a) with hb | hb
      · rw [hb, ga] at e; cases e
      · rw [← gk b hb]; exact e
    have nB : ∀ b o, B.get? b = some o → b ≠ a := fun b o e z => by rw [z, fl4.2.1] at e; cases e
    have nI : ∀ b o, sI.heap.get? b = some o → b ≠ a := fun b o e z => by
      have q := nb b o e (by rw [z, hs]; exact nfr)
      exact nB b o q z
    have upG : sI.heap.UpToSlots G4 := fun b o e hd => by
      obtain ⟨sl, q⟩ := (up.trans (upP.trans up4)) b o e hd
      exact ⟨sl, by rw [gk b (nI b o e)]; exact q⟩
    have JG : Inv X pins σ' H' { s' with heap := G4 } := J.landed nb (fun b o e => by rw [gk b (nB b o e)]; exact fl4.1 b o e) upG os ag
    have J4 : Inv X pins σ' (upd H' a (ErrO cls d a)) { s' with heap := h4 } := JG.laidN (t' := s'.toks) gs ga na (errO_ok he4 hz4 hd4)
    have S4 : Inv (X.suite a (X.pn ++ pins)) [] σ' (upd H' a (ErrO cls d a)) { s' with heap := h4 } :=
      ⟨J4.ok.suite _ _, J4.os, J4.bare, J4.base, J4.loc, J4.cell, J4.free, J4.freeC, fun p hp => J4.pin p (by rw [List.append_nil] at hp; exact hp), J4.hok, J4.len⟩
    have un : ∀ {σ6 : L2.St} {H6 : Hp} {s6 : Shared}, Inv (X.suite a (X.pn ++ pins)) [] σ6 H6 s6 → Inv X pins σ6 H6 s6 := fun {σ6 H6 s6} S => ⟨ok, S.os, S.bare, S.base, S.loc, S.cell, S.free, S.freeC, fun p hp => S.pin p (by rw [List.append_nil]; exact hp), S.hok, S.len⟩
    refine store_ok (X := X.suite a (X.pn ++ pins)) (v := .ref a) S4 hN hi hloc rfl (fun s5 S5 => ?_) (.inr hln)
    have hiσ : i < σ'.length := by rw [J4.len]; exact (List.getElem?_eq_some_iff.mp hi).1
    have suite : PSs (X.suite a (X.pn ++ pins)) [.Assign [.Name cn p1] (.Name n p2) p3] _ := pss_one (ps_set (i := i2) hN hi2 (.inl hl2) (pe_var (i := i) hi (.inl hln) hdn hcn) (hf := .inr hl2))
    refine wpAny_mono (suite.run [] s5 _ _ { nx := fun σ6 H6 => σ6 = (σ'.set i (some (.ref a))).set i2 (some (.ref a)) ∧ H6 = upd H' a (ErrO cls d a), rt := fun _ _ => False, bk := fun _ _ => False, ct := fun _ _ => False } S5 ⟨.ref a, by rw [List.getElem?_set_self hiσ], rfl, rfl⟩) (fun f s6 hsp => ?_) (fun _ _ z => False.elim z)
    cases f with
    | next =>
      obtain ⟨σ6, H6, S6, rfl, rfl⟩ := hsp
      exact gone_ok (un S6) hN hi hln fun s7 J7 => ⟨_, _, J7, hyes a na⟩
    | brk =>
      obtain ⟨σ6, H6, S6, q6⟩ := hsp
      exact q6.elim
    | cont =>
      obtain ⟨σ6, H6, S6, q6⟩ := hsp
      exact q6.elim
    | ret u =>
      obtain ⟨v6, σ6, H6, S6, r6, q6⟩ := hsp
      exact q6.elim
  · cases f with
    | next =>
      obtain ⟨σ', H', J', q⟩ := hsp
      exact wpAny_execs_nil ⟨σ', H', J'.ofTry ok, q⟩
    | brk =>
      obtain ⟨σ', H', J', q⟩ := hsp
      exact ⟨σ', H', J'.ofTry ok, q⟩
    | cont =>
      obtain ⟨σ', H', J', q⟩ := hsp
      exact ⟨σ', H', J'.ofTry ok, q⟩
    | ret u =>
      obtain ⟨v, σ', H', J', r, q⟩ := hsp
      exact ⟨v, σ', H', J'.ofTry ok, r, q⟩
end
end PL

/-! The layer: raise, try that keeps its error, isinstance of an error that was kept, its field. -/
namespace PL
open PySem PySem.Spec PyProof.Rows L2
/-! ### classes of errors -/
/-- the names of the errors with the names of their classes -/
abbrev ETab := List (Str × List Str)
def isS (t : ETab) (y c : Str) : Bool := ((t.lookup y).getD []).contains c
def kn (t : ETab) (y : Str) : Bool := (t.lookup y).isSome
structure ErrI (K : PySem.W.Frag) (mg : Str → Option Value) (t : ETab) (cs : List (Str × Value)) : Prop where
  ex : ∀ y A, mg y = some (.ref A) → kn t y = true → ExcC K A
  is : ∀ y A, mg y = some (.ref A) → kn t y = true → ∀ p ∈ cs, PySem.W.kitOne K (.ref A) p.2 = some (isS t y p.1) ∧ PySem.W.exmOne K (.ref A) p.2 = some (isS t y p.1)
def excCB (K : PySem.W.Frag) (D : Addr) : Bool := (PySem.W.findIn K (.ref D) "__getattribute__" == some (some (.builtin "BaseException.__getattribute__"))) && (PySem.W.findIn K (.ref D) "__getattr__" == some none) && (PySem.W.subIn K (.ref D) (.type "BaseException") == some true) && PySem.W.hasDictIn K D &&
  (PySem.W.findIn K (.ref D) "__class__" == some (some (.builtin "object.__class__"))) && (PySem.W.specialIn K (.builtin "object.__class__") "__get__" == some (some (.builtin "getset_descriptor.__get__"))) && (PySem.W.takesIn K (.builtin "object.__class__") == some true) && (PySem.W.mroIn K D (.type "object") == some true)
theorem excCB_ok {K : PySem.W.Frag} {D : Addr} (h : excCB K D = true) : ExcC K D := by
  unfold excCB at h
  simp only [Bool.and_eq_true, beq_iff_eq] at h
  obtain ⟨⟨⟨⟨⟨⟨⟨h1, h2⟩, h3⟩, h4⟩, h5⟩, h6⟩, h7⟩, h8⟩ := h
  exact ⟨h1, h2, h3, h4, h5, h6, h7, h8⟩
def errChk (K : PySem.W.Frag) (t : ETab) (as : List (Str × Addr)) (cs : List (Str × Value)) : Bool :=
  as.all fun a => excCB K a.2 && cs.all fun p => (PySem.W.kitOne K (.ref a.2) p.2 == some (isS t a.1 p.1)) && (PySem.W.exmOne K (.ref a.2) p.2 == some (isS t a.1 p.1))
theorem errI_of {K : PySem.W.Frag} {mg : Str → Option Value} {t : ETab} {as : List (Str × Addr)} {cs : List (Str × Value)} (hm : ∀ a ∈ as, mg a.1 = some (.ref a.2)) (hk : t.all (fun p => as.any fun a => a.1 == p.1) = true) (h : errChk K t as cs = true) : ErrI K mg t cs := by
  have key : ∀ y A, mg y = some (.ref A) → kn t y = true → (y, A) ∈ as := fun y A e k => by
    unfold kn at k
    obtain ⟨l, hl⟩ := Option.isSome_iff_exists.mp k
    have hy : (y, l) ∈ t := PySem.mem_of_lookup hl
    obtain ⟨a, ha, he⟩ := List.any_eq_true.mp (List.all_eq_true.mp hk _ hy)
    have e2 : a.1 = y := eq_of_beq he
    have e3 := hm a ha
    rw [e2, e] at e3
    have e4 : A = a.2 := by cases e3; rfl
    rw [← e2, e4]
    exact ha
  have all := List.all_eq_true.mp h
  refine ⟨fun y A e k => ?_, fun y A e k p hp => ?_⟩
  · have q := all _ (key y A e k)
    rw [Bool.and_eq_true] at q
    exact excCB_ok q.1
  · have q := all _ (key y A e k)
    rw [Bool.and_eq_true] at q
    have q2 := List.all_eq_true.mp q.2 p hp
    rw [Bool.and_eq_true, beq_iff_eq, beq_iff_eq] at q2
    exact q2
theorem exmAny_of {K : PySem.W.Frag} {cls : Value} {f : Str → Bool} : ∀ (cs : List (Str × Value)), (∀ p ∈ cs, PySem.W.exmOne K cls p.2 = some (f p.1)) → PySem.W.exmAny K cls (cs.map (·.2)) = some ((cs.map (·.1)).any f)
  | [], _ => rfl
  | p :: cs, h => by
    have h1 := h p List.mem_cons_self
    have h2 := exmAny_of cs fun q hq => h q (List.mem_cons_of_mem _ hq)
    show PySem.W.exmAny K cls (p.2 :: cs.map (·.2)) = some (f p.1 || (cs.map (·.1)).any f)
    unfold PySem.W.exmAny
    rw [h1, h2]
theorem kitAny_of {K : PySem.W.Frag} {cls : Value} {f : Str → Bool} : ∀ (cs : List (Str × Value)), (∀ p ∈ cs, PySem.W.kitOne K cls p.2 = some (f p.1)) → PySem.W.kitAny K cls (cs.map (·.2)) = some ((cs.map (·.1)).any f)
  | [], _ => rfl
  | p :: cs, h => by
    have h1 := h p List.mem_cons_self
    have h2 := kitAny_of cs fun q hq => h q (List.mem_cons_of_mem _ hq)
    show PySem.W.kitAny K cls (p.2 :: cs.map (·.2)) = some (f p.1 || (cs.map (·.1)).any f)
    unfold PySem.W.kitAny
    rw [h1, h2]
    cases f p.1 <;> rfl

/-! ### names take anything that is not one's own -/
section
variable {G : PenK} {K : PySem.W.Frag} {c : C} {σ : L2.St} {ρ : Env} {H : Hp} {n : Nt}
theorem SI.setS {i : Nat} {sv : SV} {o : Option V} (I : SI G K c σ H ρ n) (ho : sv.isOwn = false) (r : SlotOk G K c H sv o) : SI G K c (σ.set i o) H (ρ.set i sv) n := by
  have key : ∀ j s, (ρ.set i sv)[j]? = some s → (j = i ∧ s = sv ∧ slot (σ.set i o) j = o) ∨ (i ≠ j ∧ ρ[j]? = some s ∧ slot (σ.set i o) j = slot σ j) := fun j s e => by
    rcases Classical.em (i = j) with h | h
    · subst h
      have hl : i < ρ.length := by
        have := (List.getElem?_eq_some_iff.mp e).1
        rwa [List.length_set] at this
      rw [List.getElem?_set_self hl] at e
      exact .inl ⟨rfl, (Option.some.inj e).symm, slot_set_same (I.len ▸ hl)⟩
    · rw [List.getElem?_set_ne h] at e
      exact .inr ⟨h, e, slot_set_ne h⟩
  refine ⟨by rw [List.length_set, List.length_set, I.len], fun j s e => ?_, fun j s a e hs es => ?_, fun j k s s' a hn e e' hs hs' es es' => ?_, I.dom, I.fr, I.pen, I.no, I.tab, I.mu, I.mu0, I.mz⟩
  · rcases key j s e with ⟨_, rfl, h⟩ | ⟨_, h, h2⟩
    · rw [h]; exact r
    · rw [h2]; exact I.slots j s h
  · rcases key j s e with ⟨_, rfl, h⟩ | ⟨_, h, h2⟩
    · rw [ho] at hs; cases hs
    · exact I.own j s a h hs (h2 ▸ es)
  · rcases key j s e with ⟨_, rfl, h⟩ | ⟨_, h, h2⟩
    · rw [ho] at hs; cases hs
    · rcases key k s' e' with ⟨_, rfl, h'⟩ | ⟨_, h', h2'⟩
      · rw [ho] at hs'; cases hs'
      · exact I.apart j k s s' a hn h h' hs hs' (h2 ▸ es) (h2' ▸ es')
end

section
variable {G : PenK} {X : Cx} {Wx : WX} {γ : Type} {En : Enz γ} {ρ : Env} {rest : List Stmt} {m : W γ}
/-! ### raise -/
/-- an error's class with one field, over some built-in class -/
def ErrK (K : PySem.W.Frag) (mg : Str → Option Value) (x f : Str) : Prop :=
  ∃ (B newId initId : String) (bmB : List Value) (C fI : Addr) (fd : FuncData) (q : Str) (st : Stmt) (sn vn : Str), StoreFacts B bmB "object.__setattr__" "object" ∧ ExcBaseFacts B newId initId bmB ∧ IniK K C fI fd bmB newId q st sn vn f ∧ mg x = some (.ref C)
theorem sg_raise1 {x f : Str} {e : Expr} {p q pos : Pos} {g : Env → W D} {m0 : W D} (k : ErrK X.K X.mg x f) (hc : X.calm = true) (hr : Room 2 X.A) (tk : Takes X Wx) (h : E G X Wx e g) (hg : g (bor ρ) = m0) (hx : Gl X x)
    (hdb : (x == ("__debug__" : Str)) = false := by decide) (he : starEach [e] X.env = (false, eval e X.env) :: starEach [] X.env := by rfl) (hpl : (backTo q (starEach [] X.env)).any (·.1) = false := by rfl) :
    SG G X Wx (.Raise (some (.Call (.Name x p) [e] [] q)) none pos :: rest) ρ En (bnd m0 fun d => rse (x, [(f, d)])) := by
  obtain ⟨B, newId, initId, bmB, C, fI, fd, qn, st, sn, vn, SF, FB, N, hm⟩ := k
  refine weakSs (pss_cons (ps_raise hc tk (pmk_one SF FB N hr hx hm h hdb he hpl)) pss_no) fun Dn σ H ⟨c, n, P, PX, I, q, hgl, hxx⟩ => ?_
  obtain ⟨I2, g2⟩ := I.lend
  subst hg
  refine tE.bnd (f := fun d => (rse (x, [(f, d)]) : W γ)) I2 q (hxx.grow g2).x fun d k v S' H' p g I' hx' r dd hdd => ?_
  obtain ⟨I3, g3⟩ := I'.laid (o := .xd [(f, v)]) hdd
  exact hx' (x, [(f, d)]) k _ _ _ _ p g3 I3 ⟨C, hm, rfl, .inr ⟨dd, _, rfl, .inr rfl, upd_same, .cons ⟨rfl, Rep.grow g3 _ _ r⟩ .nil⟩⟩
/-! ### try -/
def tryW {α γ : Type} (m : W α) (k : α → W γ) (h : Exc → W γ) : W γ := fun n P PX => m n (fun a j => k a j P PX) fun x j => h x j P PX
abbrev namesS (xs : List Nm) : List Str := xs.map fun p => p.1
/-- caught by a clause with these classes -/
def cat (t : ETab) (ys : List Str) (x : Exc) : Bool := kn t x.1 && ys.any (isS t x.1)
theorem onB_inv {α : Type} {b : Bool} {m : W α} {k : Nt} {P : α → Nt → Prop} {PX : Exc → Nt → Prop} (h : onB b m k P PX) : b = true ∧ m k P PX := by
  cases b with
  | true => exact ⟨rfl, h⟩
  | false => exact h.elim
end
end PL

/-! The layer: isinstance of an error that was kept, its field. -/
namespace PL
open PySem PySem.Spec PyProof.Rows L2
/-! ### isinstance -/
def XAt (H : Hp) (a D : Addr) : Prop := ∃ dd : Option Addr, H a = some (ErrO (.ref D) dd a) ∧ (dd = none ∨ ∃ d fv, dd = some d ∧ H d = some (.xd fv))
theorem xAt_inst {P : Program} {w : World} {H : Hp} {h : Heap} {a D : Addr} (hok : HOk P w H h) (x : XAt H a D) : ∃ ox od, PySem.W.InstAt h a ox D od := by
  obtain ⟨dd, e, hd⟩ := x
  have q : ObjOk P w H h a (.ext fun h => ∃ (oe : Obj) (vs : Array Value), h.get? a = some oe ∧ Zc (.ref D) dd oe ∧ oe.data = .fields vs) := hok a _ e
  obtain ⟨⟨oe, vs, ho, hz, hv⟩, _⟩ := q
  obtain ⟨z1, z2⟩ := id hz
  rcases hd with rfl | ⟨d, fv, rfl, h2⟩
  · exact ⟨oe, none, ⟨ho, z1, by unfold PySem.W.notCls; rw [hv] <;> rfl, by rw [z2]; trivial⟩⟩
  · have hx : ObjOk P w H h d (.xd fv) := hok d _ h2
    obtain ⟨mA, hns, hr⟩ := hx
    obtain ⟨od, ho2, hl⟩ := lookIn_ns hns
    exact ⟨oe, some od, ⟨ho, z1, by unfold PySem.W.notCls; rw [hv] <;> rfl, by rw [z2]; exact ho2⟩⟩
theorem kitx_X {K : PySem.W.Frag} {a D : Addr} {ox : Obj} {od : Option Obj} (C : ExcC K D) : PySem.W.KitX K (.ref a) (.ref D) (fun h => PySem.W.InstAt h a ox D od) :=
  PySem.W.kitx_exc (gt := none) (by obtain ⟨cd, hc, _⟩ := PySem.W.any_some C.hd; rw [hc]; rfl) C.hg C.hk C.hs C.ha C.hn C.ht C.hm
def rIsX (K : PySem.W.Frag) : List V → Hp → VK → Prop := fun xs H Q => ∃ (a D : Addr) (c : V) (cv : Value) (b : Bool), xs = [.ref a, c] ∧ XAt H a D ∧ ExcC K D ∧ ClsV c cv ∧ PySem.W.kitOne K (.ref D) cv = some b ∧ Q (.bl b) H
theorem call_isX {X : Cx} : CallR X (.builtin "isinstance") (rIsX X.K) := by
  intro pins s σ H xs us Q I r h
  obtain ⟨a, D, c, cv, b, rfl, x, C, k, e, q⟩ := h
  obtain ⟨u1, u2, rfl, r1, r2⟩ := vals2 r
  have e2 := k.eq r2
  subst e2
  cases (show u1 = Value.ref a from r1)
  obtain ⟨ox, od, J⟩ := xAt_inst I.hok x
  exact PySem.W.kia_one (kitx_X C) I.kIn J e (fun z => nomatch z) fun tk => ⟨.bl b, H, I.tok tk, rfl, q⟩
def rIsXT (K : PySem.W.Frag) : List V → Hp → VK → Prop := fun xs H Q => ∃ (a D tp : Addr) (cs : List V) (ws : List Value) (b : Bool), xs = [.ref a, .ref tp] ∧ XAt H a D ∧ ExcC K D ∧ H tp = some (.tup cs) ∧ Paired ClsV cs ws ∧ PySem.W.kitAny K (.ref D) ws = some b ∧ Q (.bl b) H
theorem call_isXT {X : Cx} : CallR X (.builtin "isinstance") (rIsXT X.K) := by
  intro pins s σ H xs us Q I r h
  obtain ⟨a, D, tp, cs, ws, b, rfl, x, C, hT, k, e, q⟩ := h
  obtain ⟨u1, u2, rfl, r1, r2⟩ := vals2 r
  cases (show u1 = Value.ref a from r1)
  cases (show u2 = Value.ref tp from r2)
  obtain ⟨ox, od, J⟩ := xAt_inst I.hok x
  obtain ⟨_, its, rv, o, h1, h2, n, h3⟩ := (show ObjOk X.prog X.w H s.heap tp (.tup cs) from I.hok tp _ hT)
  have e3 := ClsV.all k rv
  subst e3
  obtain ⟨oc, od', dt, sl⟩ := o
  simp only at h2 h3
  subst h2 h3
  exact PySem.W.kia_tup (kitx_X C) I.kIn J h1 e (fun z => nomatch z) fun tk => ⟨.bl b, H, I.tok tk, rfl, q⟩
/-- a class by its value -/
def cV : Value → V
  | .ref C => .ref C
  | .type T => .ty T
  | _ => .non
def isCl : Value → Bool
  | .ref _ => true
  | .type _ => true
  | _ => false
theorem cV_cls {c : Value} (h : isCl c = true) : ClsV (cV c) c := by
  cases c with
  | ref C => exact .own C
  | type T => exact .ty T
  | _ => cases h
section
variable {G : PenK} {X : Cx} {Wx : WX} {γ : Type} {En : Enz γ} {ρ : Env} {rest : List Stmt} {m : W γ}
theorem pe_cls {x : Str} {c : Value} {p : Pos} (h : Names X x c) (hc : isCl c = true) : PE X (.Name x p) (tC (cV c)) := by
  have r : RelV (cV c) c := by
    cases c with
    | ref C => rfl
    | type T => rfl
    | _ => cases hc
  obtain ⟨hg, hd, hm | ⟨hm, hv, hn⟩⟩ := h
  · exact pe_glob hg hm r hd
  · exact pe_bltn hg hm hv r hn hd
theorem pa_cls : ∀ (xs : List Nm), (∀ p ∈ xs, Names X p.1 p.2.2 ∧ isCl p.2.2 = true) → PA X (namesE xs) (fun _ H Q => Q (xs.map fun p => cV p.2.2) H)
  | [], _ => pa_nil
  | p :: xs, h => weakA (pa_cons (pe_cls (h p List.mem_cons_self).1 (h p List.mem_cons_self).2) (pa_cls xs fun q hq => h q (List.mem_cons_of_mem _ hq)) (by rfl)) fun σ H Q q => q
theorem clsV_all : ∀ (xs : List Nm), (∀ p ∈ xs, isCl p.2.2 = true) → Paired ClsV (xs.map fun p => cV p.2.2) (xs.map fun p => p.2.2)
  | [], _ => .nil
  | p :: xs, h => .cons (cV_cls (h p List.mem_cons_self)) (clsV_all xs fun q hq => h q (List.mem_cons_of_mem _ hq))
/-- the error that a name holds -/
def excAt {α : Type} (ρ : Env) (i : Nat) (f : Exc → W α) : W α := match svAt ρ i with
  | .exc x => f x
  | _ => stuck
theorem excAt_inv {α : Type} {ρ : Env} {i : Nat} {n : Nt} {f : Exc → W α} {P : α → Nt → Prop} {PX : Exc → Nt → Prop} (h : excAt ρ i f n P PX) : ∃ x, ρ[i]? = some (.exc x) ∧ f x n P PX := by
  unfold excAt svAt at h
  cases e : ρ[i]? with
  | none => rw [e] at h; exact h.elim
  | some sv =>
    rw [e] at h
    cases sv with
    | exc x => exact ⟨x, rfl, h⟩
    | _ => exact h.elim
theorem SI.exc {K : PySem.W.Frag} {c : C} {σ : L2.St} {H : Hp} {n : Nt} {i : Nat} {x : Exc} (I : SI G K c σ H ρ n) (e : ρ[i]? = some (.exc x)) : ∃ a D dd, slot σ i = some (.ref a) ∧ XAt H a D ∧ G.mg x.1 = some (.ref D) ∧ H a = some (ErrO (.ref D) dd a) ∧ RepX K G.mg c.S H x (.ref D) dd := by
  obtain ⟨a, cls, dd, e1, hs, ha, r⟩ := I.slots i _ e
  obtain ⟨D, h1, h2, h3⟩ := id r
  subst h2
  exact ⟨a, D, dd, e1, ⟨dd, ha, h3.elim (fun z => .inl z.2) fun ⟨d, fv, e, _, hd, _⟩ => .inr ⟨d, fv, e, hd⟩⟩, h1, ha, r⟩
def isW (t : ETab) (y : Str) (e : Exc) : W D := onB (kn t e.1) (ret (.bl (isS t e.1 y)))
def isTW (t : ETab) (ys : List Str) (e : Exc) : W D := onB (kn t e.1) (ret (.bl (ys.any (isS t e.1))))
def fldW (ys : List Str) (f : Str) (e : Exc) : W D := onB (ys.contains e.1) (match e.2.lookup f with | some d => ret d | none => stuck)
/-- isinstance(x, C), x an error that was kept -/
theorem e_isX {x y : Str} {cv : Value} {t : ETab} {cs : List (Str × Value)} {p px py pos : Pos} (T : ErrI X.K X.mg t cs) (hG : G.mg = X.mg) (i : Nat) (hc : Names X y cv) (hcl : isCl cv = true) (hin : (y, cv) ∈ cs) (hm : X.mg "isinstance" = none)
    (hN : X.N[i]? = some x := by rfl) (hv : Vis X.env.scope x := by first | exact Or.inl rfl | exact Or.inr (Or.inl rfl) | exact Or.inr (Or.inr rfl)) (hd : (x == ("__debug__" : Str)) = false := by decide)
    (hcd : (x == ("__classdict__" : Str)) = false := by decide) (hg : Gl X "isinstance" := by rfl) (he : starEach [.Name x px, .Name y py] X.env = (false, eval (.Name x px) X.env) :: starEach [.Name y py] X.env := by rfl)
    (he2 : starEach [.Name y py] X.env = (false, eval (.Name y py) X.env) :: starEach [] X.env := by rfl) (hpl : (backTo pos (starEach [.Name y py] X.env)).any (·.1) = false := by rfl) :
    E G X Wx (.Call (.Name "isinstance" p) [.Name x px, .Name y py] [] pos) (fun ρ => excAt ρ i (isW t y)) :=
  weakE (pe_callB call_isX hg hm PyProof.Rows.boot_isinstance (two_a (pe_var hN hv hd hcd) (pe_cls hc hcl) he he2) (by decide) (by decide) he hpl) fun σ H Q ⟨c, ρ, n, P, PX, I, q, hg, hx⟩ => by
    obtain ⟨e, e1, q⟩ := excAt_inv (show excAt ρ i _ n P PX from q)
    obtain ⟨hk, q⟩ := onB_inv (show onB _ _ n P PX from q)
    obtain ⟨a, D, dd, es, xa, hm', _⟩ := I.exc e1
    rw [hG] at hm'
    exact ⟨.ref a, slot_some es, a, D, cV cv, cv, isS t e.1 y, rfl, xa, T.ex e.1 D hm' hk, cV_cls hcl, (T.is e.1 D hm' hk _ hin).1, hg (.bl (isS t e.1 y)) n _ c.S H q .refl I rfl⟩
/-- isinstance(x, (C, D, ..)) -/
theorem e_isXT {x : Str} {xs : List Nm} {t : ETab} {cs : List (Str × Value)} {p px pt pos : Pos} {k0 : Nat} (T : ErrI X.K X.mg t cs) (hG : G.mg = X.mg) (i : Nat) (hc : ∀ p ∈ xs, Names X p.1 p.2.2 ∧ isCl p.2.2 = true) (hin : ∀ p ∈ xs.map (fun p => (p.1, p.2.2)), p ∈ cs) (hz : xs.length ≤ sizeLine) (hm : X.mg "isinstance" = none)
    (hN : X.N[i]? = some x := by rfl) (hv : Vis X.env.scope x := by first | exact Or.inl rfl | exact Or.inr (Or.inl rfl) | exact Or.inr (Or.inr rfl)) (hd : (x == ("__debug__" : Str)) = false := by decide)
    (hcd : (x == ("__classdict__" : Str)) = false := by decide) (hg : Gl X "isinstance" := by rfl) (he : starEach [.Name x px, .Tuple (namesE xs) k0 pt] X.env = (false, eval (.Name x px) X.env) :: starEach [.Tuple (namesE xs) k0 pt] X.env := by rfl)
    (he2 : starEach [.Tuple (namesE xs) k0 pt] X.env = (false, eval (.Tuple (namesE xs) k0 pt) X.env) :: starEach [] X.env := by rfl) (hpl : (backTo pos (starEach [.Tuple (namesE xs) k0 pt] X.env)).any (·.1) = false := by rfl) :
    E G X Wx (.Call (.Name "isinstance" p) [.Name x px, .Tuple (namesE xs) k0 pt] [] pos) (fun ρ => excAt ρ i (isTW t (namesS xs))) :=
  weakE (pe_callB call_isXT hg hm PyProof.Rows.boot_isinstance (two_a (pe_var hN hv hd hcd) (pe_tup (pa_cls xs hc)) he he2) (by decide) (by decide) he hpl) fun σ H Q ⟨c, ρ, n, P, PX, I, q, hg, hx⟩ => by
    obtain ⟨e, e1, q⟩ := excAt_inv (show excAt ρ i _ n P PX from q)
    obtain ⟨hk, q⟩ := onB_inv (show onB _ _ n P PX from q)
    obtain ⟨a, D, dd, es, xa, hm', ha, rx⟩ := I.exc e1
    rw [hG] at hm'
    refine ⟨.ref a, slot_some es, by rw [List.length_map]; exact hz, fun tp htp => ?_⟩
    obtain ⟨I2, g2⟩ := I.laid (o := .tup (xs.map fun p => cV p.2.2)) htp
    obtain ⟨a2, D2, dd2, es2, xa2, hm2, _⟩ := I2.exc e1
    rw [es] at es2
    cases es2
    rw [hG, hm'] at hm2
    cases hm2
    have hka := kitAny_of (f := isS t e.1) (xs.map fun p => (p.1, p.2.2)) fun p hp => (T.is e.1 D hm' hk p (hin p hp)).1
    rw [List.map_map, List.map_map] at hka
    exact ⟨a, D, tp, _, xs.map fun p => p.2.2, (namesS xs).any (isS t e.1), rfl, xa2, T.ex e.1 D hm' hk, upd_same, clsV_all xs fun p hp => (hc p hp).2, hka, hg (.bl _) n _ _ _ q g2 I2 rfl⟩
/-- what is asked of a field's name -/
def FldOk (K : PySem.W.Frag) (mg : Str → Option Value) (ys : List Str) (f : Str) : Prop := ∀ y A, mg y = some (.ref A) → y ∈ ys → XfC K A ∧ PySem.W.findIn K (.ref A) f = some none
/-- x.f, x an error that was kept, of one of the classes ys -/
theorem e_fldX {x f : Str} {ys : List Str} {px pos : Pos} (T : FldOk X.K X.mg ys f) (hG : G.mg = X.mg) (i : Nat)
    (hN : X.N[i]? = some x := by rfl) (hv : Vis X.env.scope x := by first | exact Or.inl rfl | exact Or.inr (Or.inl rfl) | exact Or.inr (Or.inr rfl)) (hd : (x == ("__debug__" : Str)) = false := by decide)
    (hcd : (x == ("__classdict__" : Str)) = false := by decide) (hb : attributeBase (.Name x px) f X.env (eval (.Name x px) X.env) = eval (.Name x px) X.env := by rfl) :
    E G X Wx (.Attribute (.Name x px) f pos) (fun ρ => excAt ρ i (fldW ys f)) := by
  refine ⟨fun pins s σ H Q J ⟨c, ρ, n, P, PX, I, q, hg, hx⟩ => ?_⟩
  obtain ⟨e, e1, q⟩ := excAt_inv (show excAt ρ i _ n P PX from q)
  obtain ⟨hk, q⟩ := onB_inv (show onB _ _ n P PX from q)
  obtain ⟨a, Da, dd, es, xa, hm', ha, A, r1, r2, r3⟩ := I.exc e1
  rw [hG] at hm'
  obtain ⟨Tx, hno⟩ := T e.1 Da hm' (List.contains_iff_mem.mp hk)
  refine attr_of hb (thn ((pe_var (pos := px) (i := i) hN hv hd hcd).run pins s σ H (fun v H1 => v = .ref a ∧ H1 = H) J ⟨.ref a, slot_some es, rfl, rfl⟩) fun u s1 hh => ?_)
  obtain ⟨v, H1, J1, rx, rfl, rfl⟩ := hh
  obtain rfl : u = Value.ref a := rx
  cases el : e.2.lookup f with
  | none => rw [el] at q; exact q.elim
  | some dv =>
    rw [el] at q
    rcases r3 with ⟨z, _⟩ | ⟨d, fv, rfl, hS, hd2, pr⟩
    · rw [z] at el; cases el
    · have key : ∀ {xs : List (Str × D)} {fv : List (Str × V)}, Paired (fun (p : Str × D) (q : Str × V) => p.1 = q.1 ∧ Rep X.K c.S H1 p.2 q.2) xs fv → xs.lookup f = some dv → ∃ w, fv.lookup f = some w ∧ Rep X.K c.S H1 dv w := by
        intro xs fv pr
        induction pr with
        | nil => intro z; cases z
        | @cons p q xs fv h t ih =>
          intro z
          obtain ⟨p1, p2⟩ := p
          obtain ⟨q1, q2⟩ := q
          obtain ⟨h1, h2⟩ := h
          dsimp only at h1 h2
          subst h1
          rw [List.lookup_cons] at z ⊢
          cases eb : f == p1 with
          | true =>
            rw [eb] at z
            cases z
            exact ⟨q2, rfl, h2⟩
          | false =>
            rw [eb] at z
            exact ih z
      obtain ⟨w, lw, rw'⟩ := key pr el
      have q2 : ObjOk X.prog X.w H1 s1.heap a (.ext fun h => ∃ (oe : Obj) (vs : Array Value), h.get? a = some oe ∧ Zc (.ref Da) (some d) oe ∧ oe.data = .fields vs) := J1.hok a _ ha
      obtain ⟨⟨oe, vs, ho, hz, hvs⟩, _⟩ := q2
      have hxd : ObjOk X.prog X.w H1 s1.heap d (.xd fv) := J1.hok d _ hd2
      obtain ⟨mA, hns, hr⟩ := hxd
      obtain ⟨od, ho2, hl⟩ := lookIn_ns hns
      obtain ⟨u, hu, ru⟩ := RelO.some_of (v := w) (o := mA f) (by rw [← lw]; exact hr f)
      have Ji : PySem.W.InstAt s1.heap a oe Da (some od) := ⟨ho, hz.1, by unfold PySem.W.notCls; rw [hvs] <;> rfl, by rw [hz.2]; exact ho2⟩
      exact HandSPX.exc_get J1.kIn Ji Tx.ga Tx.gg Tx.exC (PySem.W.findObj_own Tx.hdC hno rfl (by rw [hl, hu])) (handed_of ru) ⟨w, H1, J1.tok _, ru, hg dv n w c.S H1 q .refl I rw'⟩
end
end PL

/-! The layer: a lambda handed to a def. -/
namespace PL
open PySem PySem.Spec PyProof.Rows L2 LamX
section
variable {G : PenK} {K : PySem.W.Frag} {c : C} {σ : L2.St} {ρ : Env} {H : Hp} {n : Nt}
/-- a code object is made, its table is longer -/
theorem SI.code {P c' : Addr} {q : Str} {ps : Array Value} {pos : Pos} (J : SI G K c σ H ρ n) (hq : (P, q) ∈ G.tab) (hu : ∀ p ∈ G.tab, p.1 = P → p.2 = q) (hP : H P = some (.tbl ps)) (hT : TriplesOk ps.toList) (ho : ∀ (pos : Pos) (cv : Value), codeAmong pos ps.toList = some cv → ∃ c0, cv = .ref c0 ∧ c.S c0 ∧ H c0 = some (CodeO c0 q)) (nC : H c' = none) :
    SI G K (c.to fun a => c.S a ∨ a = c') σ (upd (upd H P (.tbl (ps ++ #[rawInt pos.line, rawInt pos.col, .ref c']))) c' (CodeO c' q)) ρ n ∧ Grow c.S (fun a => c.S a ∨ a = c') H (upd (upd H P (.tbl (ps ++ #[rawInt pos.line, rawInt pos.col, .ref c']))) c' (CodeO c' q)) := by
  have nPc : P ≠ c' := ne_of_none hP nC
  have at_ : ∀ b, b ≠ P → b ≠ c' → upd (upd H P (.tbl (ps ++ #[rawInt pos.line, rawInt pos.col, .ref c']))) c' (CodeO c' q) b = H b := fun b h1 h2 => by rw [upd_ne h2, upd_ne h1]
  have atP : upd (upd H P (.tbl (ps ++ #[rawInt pos.line, rawInt pos.col, .ref c']))) c' (CodeO c' q) P = some (.tbl (ps ++ #[rawInt pos.line, rawInt pos.col, .ref c'])) := by rw [upd_ne nPc, upd_same]
  have tN := J.tabN hq
  have ne : ∀ b, H b ≠ none → b ≠ c' := fun b h z => h (z ▸ nC)
  have eqS : ∀ b, c.S b → upd (upd H P (.tbl (ps ++ #[rawInt pos.line, rawInt pos.col, .ref c']))) c' (CodeO c' q) b = H b := fun b h => at_ b (fun z => tN.1 (z ▸ h)) (ne b (J.dom b h))
  have g : Grow c.S (fun a => c.S a ∨ a = c') H (upd (upd H P (.tbl (ps ++ #[rawInt pos.line, rawInt pos.col, .ref c']))) c' (CodeO c' q)) := ⟨fun _ h => .inl h, eqS⟩
  have ownN : ∀ a, ownS ρ σ a → a ≠ P := fun a ⟨i, sv, e, h, es⟩ z => tN.2.1 (z ▸ (J.own i sv a e h es).2.1)
  have eL : (ps ++ #[rawInt pos.line, rawInt pos.col, .ref c']).toList = ps.toList ++ [rawInt pos.line, rawInt pos.col, .ref c'] := by simp
  refine ⟨⟨J.len, fun i sv e => (J.slots i sv e).grow g fun a ea h => at_ a (ownN a ⟨i, sv, e, h, ea⟩) (ne a (J.own_there ⟨i, sv, e, h, ea⟩)), fun i sv a e h es => ⟨fun z => z.elim (J.own i sv a e h es).1 fun z => ne a (J.own_there ⟨i, sv, e, h, es⟩) z, (J.own i sv a e h es).2⟩, J.apart, fun a h => ?_, fun a o e hn => ?_, fun p e => ?_,
    fun a h => ⟨fun z => z.elim (J.no a h).1 fun z => (J.no a h).2 (z ▸ J.freeOld nC), (J.no a h).2⟩, fun p hp => ⟨(J.tab p hp).1, ?_⟩, fun b nd e => ⟨(J.mu b nd e).1.grow g (at_ b (fun z => (J.mu b nd e).2.2.2 (.inr ⟨_, hq, z⟩)) (ne b (J.mu b nd e).1.there)), fun z => Or.elim z (J.mu b nd e).2.1 (ne b (J.mu b nd e).1.there), (J.mu b nd e).2.2⟩, J.mu0, J.mz⟩, g⟩
  · rcases h with h | h
    · rw [eqS a h]; exact J.dom a h
    · rw [h, upd_same]; exact fun z => nomatch z
  · have q1 := J.fr a o e hn
    rw [at_ a (fun z => hn (.inl (.inr ⟨_, hq, z⟩))) (ne a (by rw [q1]; exact fun z => nomatch z))]
    exact q1
  · obtain ⟨h1, h2, h3, h4, h5⟩ := J.pen p e
    obtain ⟨⟨xs, e1⟩, ys, e2⟩ := G.isL h1
    have nl : ∀ b xs, H b = some (.lst xs) → b ≠ P := fun b xs h z => by rw [z, hP] at h; cases h
    exact ⟨G.dep h1 (at_ _ (nl _ _ e1) (ne_of_none e1 nC)) (at_ _ (nl _ _ e2) (ne_of_none e2 nC)), fun z => z.elim h2 (ne_of_none e1 nC), fun z => z.elim h3 (ne_of_none e2 nC), h4, h5⟩
  · rcases Classical.em (p.1 = P) with hb | hb
    · rw [hu p hp hb, hb]
      refine ⟨_, atP, by rw [eL]; exact PySem.TriplesOk_snoc _ _ _ _ hT, fun p' cv hcv => ?_⟩
      rw [eL] at hcv
      rcases among_app _ hT hcv with z | z
      · obtain ⟨c0, e1, e2, e3⟩ := ho p' cv z
        exact ⟨c0, e1, .inl e2, (eqS c0 e2).trans e3⟩
      · exact ⟨c', z, .inr rfl, upd_same⟩
    · exact (J.tab p hp).2.grow g (at_ _ hb (ne _ (J.tabN hp).2.2))
end
section
variable {G : PenK} {X : Cx} {pins : List (Addr × Obj)} {σ : L2.St} {H : Hp} {s : Shared} {c : C} {ρ : Env} {n : Nt}
/-- the lambda is made -/
theorem lam_make3 {cc P : Addr} {params : Arguments} {body : Expr} {scope : Scope} {pos : Pos} {E : Value → Shared → Prop} {Q : Value → Shared → Prop} (I : Inv X pins σ H s) (J : SI G X.K c σ H ρ n) (TB : TabB X.base X.mg cc P) (hcode : X.env.code = .ref cc)
    (hm : (P, X.env.qual ++ "<lambda>") ∈ G.tab) (hu : ∀ p ∈ G.tab, p.1 = P → p.2 = X.env.qual ++ "<lambda>") (hdef : defaultsOf params X.env = ([], [])) (hfree : ∀ y ∈ scope.names, y.2 = .free → ∃ c, X.env.cells.lookup y.1 = some c)
    (h : ∀ (f c' : Addr) (pm ctv : Value) (H1 : Hp) (s' : Shared), Inv X pins σ H1 s' → SI G X.K (c.to fun a => c.S a ∨ a = c') σ H1 ρ n → Grow c.S (fun a => c.S a ∨ a = c') H H1 →
      s'.heap.get? f = some (PySem.W.kla_obj "<lambda>" (X.env.qual ++ "<lambda>") params body scope (cloFrom X.env.cells scope.names []) pm c' ctv) → H1 f = none → f ∉ frs X.stack → H1 c' = some (CodeO c' (X.env.qual ++ "<lambda>")) → Q (.ref f) s') :
    wpAny (model X.prog X.w) X.A (eval (.Lambda params body scope pos) X.env) Q E s := by
  obtain ⟨ps, hP, ht, ha⟩ := (J.tab _ hm).2
  refine PySem.W.kla_eval hdef ?_
  have bP : s.heap.BuiltinsAt X.mg P := TB.bm.keeps I.bk
  have hP' : s.heap.get? P = some { cls := .none, data := .fields ps } := I.hok P _ hP
  have nofr : ∀ f, s.heap.objs.size ≤ f → f ∉ frs X.stack := fun f hf z => by
    rcases List.mem_cons.mp (I.stkSub _ z) with e | e
    · exact Nat.lt_irrefl _ (Nat.lt_of_lt_of_le (e ▸ I.lt) hf)
    · exact I.nofs hf e
  cases hc : codeAmong pos ps.toList with
  | none =>
    refine PySem.W.kla_makeFunction (mg := X.mg) (c := cc) (P := P) (ps := ps) (closure_ok hfree) I.ok.glob (I.mod.glob.keeps I.bk) hcode (TB.code.keeps I.bk) hP' ht hc TB.gP bP fun c' ctv h' tk hx hge hlt hrec htb => ?_
    obtain ⟨c2, oc, vs, t, e2, hoc, hd, hv⟩ := hrec
    cases e2
    have hsz : s.heap.objs.size ≤ h'.objs.size := Nat.le_trans hge (Nat.le_of_lt hlt)
    have nC : H c' = none := I.hok.fresh hge
    have I1 := inv_table (t' := tk) (more := #[rawInt pos.line, rawInt pos.col, .ref c']) (h' := h'.push (PySem.W.kla_obj "<lambda>" (X.env.qual ++ "<lambda>") params body scope (cloFrom X.env.cells scope.names []) ((X.mg "__name__").getD .none) c' ctv)) I hP
      (fun b o hb e => Heap.get?_push_of_some _ (hx b o hb e)) (Heap.get?_push_of_some _ htb) hge ⟨oc, vs, t, Heap.get?_push_of_some _ hoc, hd, hv⟩
    obtain ⟨J1, g1⟩ := J.code (pos := pos) hm hu hP ht ha nC
    refine h h'.objs.size c' ((X.mg "__name__").getD .none) ctv _ _ I1 J1 g1 (Heap.get?_push_size _ rfl) ?_ (nofr _ hsz) upd_same
    rw [upd_ne (Nat.ne_of_gt hlt), upd_ne (Nat.ne_of_gt (Nat.lt_of_lt_of_le (Heap.lt_size hP') hsz))]
    exact I.hok.fresh hsz
  | some cv =>
    obtain ⟨c', e, hS, hco⟩ := ha pos cv hc
    subst e
    refine PySem.W.kla_makeFunctionHit (mg := X.mg) (c := cc) (P := P) (ps := ps) (closure_ok hfree) I.ok.glob (I.mod.glob.keeps I.bk) hcode (TB.code.keeps I.bk) hP' ht hc bP fun ctv h' tk hx hsz => ?_
    have I1 : Inv X pins σ H { s with heap := h'.push (PySem.W.kla_obj "<lambda>" (X.env.qual ++ "<lambda>") params body scope (cloFrom X.env.cells scope.names []) ((X.mg "__name__").getD .none) c' ctv), toks := tk } := I.kept fun b o e => Heap.get?_push_of_some _ (hx b o e)
    have eS : (fun a => c.S a ∨ a = c') = c.S := by
      funext a
      exact propext ⟨fun z => z.elim id fun z => z ▸ hS, .inl⟩
    refine h h'.objs.size c' ((X.mg "__name__").getD .none) ctv H _ I1 ?_ ?_ (Heap.get?_push_size _ rfl) (I.hok.fresh hsz) (nofr _ hsz) hco
    · rw [eS]; exact J
    · rw [eS]; exact .refl
end
end PL

/-! The layer: a lambda handed to a def, called there; the call of such a def. -/
namespace PL
open PySem PySem.Spec PyProof.Rows L2 LamX
def emb1 : Option D → SV
  | some x => .d x
  | none => .un
def ds1 : SV → Option D
  | .d x => some x
  | _ => none
abbrev embs (ds : List (Option D)) : Env := ds.map emb1
abbrev dsOf (ρ : Env) : List (Option D) := ρ.map ds1
def lamIs {α : Type} (ρ : Env) (i : Nat) (f c : Addr) (q : Str) (σ : L2.St) (k : List (Option D) → W α) : W α := match svAt ρ i with
  | .lam f' c' q' σ' ds => grd (f' = f ∧ c' = c ∧ q' = q ∧ σ' = σ) (k ds)
  | _ => stuck
theorem lamIs_inv {α : Type} {ρ : Env} {i : Nat} {n : Nt} {f c : Addr} {q : Str} {σ : L2.St} {k : List (Option D) → W α} {P : α → Nt → Prop} {PX : Exc → Nt → Prop} (h : lamIs ρ i f c q σ k n P PX) : ∃ ds, ρ[i]? = some (.lam f c q σ ds) ∧ k ds n P PX := by
  unfold lamIs svAt at h
  cases e : ρ[i]? with
  | none => rw [e] at h; exact h.elim
  | some sv =>
    rw [e] at h
    cases sv with
    | lam f' c' q' σ' ds =>
      obtain ⟨⟨rfl, rfl, rfl, rfl⟩, h⟩ := h
      exact ⟨ds, rfl, h⟩
    | _ => exact h.elim
theorem lamIs_eq {α : Type} {f c : Addr} {q : Str} {σ : L2.St} {ds : List (Option D)} {k : List (Option D) → W α} (l : Env) : lamIs (.lam f c q σ ds :: l) 0 f c q σ k = k ds := by
  funext n P PX
  exact propext ⟨fun h => h.2, fun h => ⟨⟨rfl, rfl, rfl, rfl⟩, h⟩⟩
section
variable {G : PenK} {X : Cx} {pins : List (Addr × Obj)} {σ : L2.St} {H : Hp} {s : Shared}
/-- the state of the lambda's names where it is called -/
theorem SI.lam {K : PySem.W.Frag} {c : C} {τ : L2.St} {ρ : Env} {n : Nt} {b : Addr} {q : Str} {ds : List (Option D)} (J : SI G K c τ H ρ n) (h : LamOk K c.S H b q σ ds) : SI G K ⟨c.S, H, c.pen, fun a => H a ≠ none ∧ ¬ c.S a, fun a => n.μ a ≠ none⟩ σ H (embs ds) n := by
  obtain ⟨_, _, hl, hd⟩ := h
  have key : ∀ (i : Nat) (sv : SV), (embs ds)[i]? = some sv → sv = .un ∨ ∃ x, sv = .d x ∧ ds[i]? = some (some x) := fun i sv e => by
    rw [List.getElem?_map] at e
    cases z : ds[i]? with
    | none => rw [z] at e; cases e
    | some o =>
      rw [z] at e
      cases o with
      | none => cases e; exact .inl rfl
      | some x => cases e; exact .inr ⟨x, rfl, rfl⟩
  have no : ∀ (i : Nat) (sv : SV), (embs ds)[i]? = some sv → sv.isOwn = true → False := fun i sv e ho => by
    rcases key i sv e with rfl | ⟨x, rfl, _⟩ <;> cases ho
  refine ⟨by rw [List.length_map, hl], fun i sv e => ?_, fun i sv a e ho => (no i sv e ho).elim, fun i j sv sv' a _ e _ ho => (no i sv e ho).elim, J.dom, fun a o e _ => e, fun p e => ?_, fun a h => ⟨h.2, h.1⟩, fun p hp => ⟨⟨(J.tabN hp).2.2, (J.tabN hp).1⟩, (J.tab p hp).2⟩, fun a nd e => ⟨(J.mu a nd e).1, (J.mu a nd e).2.1, .inl (by show n.μ a ≠ none; rw [e]; exact fun z => nomatch z), (J.mu a nd e).2.2.2⟩, fun a h => ⟨h, (J.muS h).2⟩, J.mz⟩
  · rcases key i sv e with rfl | ⟨x, rfl, e2⟩
    · trivial
    · exact hd i x e2
  · obtain ⟨h1, h2, h3, _⟩ := J.pen p e
    obtain ⟨k1, k2⟩ := G.there h1
    exact ⟨h1, h2, h3, k1, k2⟩
/-- x(), in the def that got the lambda -/
theorem e_act {Eg : XK} {Ng : List Str} {qg : Str} {sg : Scope} {g f c' : Addr} {cdg pm ctv : Value} {params : Arguments} {body : Expr} {scope : Scope} {k i : Nat} {a : Str} {pn : List (Addr × Obj)} {xe : Value → Shared → Prop} {W : WX} {gb : Env → PL.W D} {p1 p2 : Pos}
    (I : Inv X pins σ H s) (L : LamS X.env.scope scope) (hf : s.heap.get? f = some (PySem.W.kla_obj "<lambda>" (X.env.qual ++ "<lambda>") params body scope (cloFrom X.env.cells scope.names []) pm c' ctv)) (hfn : H f = none) (hfr : f ∉ frs X.stack)
    (hbind : bindArgs (PySem.W.kla_fn "<lambda>" (X.env.qual ++ "<lambda>") params body scope (cloFrom X.env.cells scope.names []) pm (.ref c') ctv) ⟨[], []⟩ = pure [])
    (tk : Takes ((cxOf (L2.CX X.prog X.w) X.prog X.w X.K X.mg X.base Ng qg sg g cdg X.A X.stack s H Eg).tr pn xe) W) (hr : Room (k + 1) (X.A.deeper (envOfC qg sg s.heap.objs.size g cdg)))
    (hbody : ∀ (A : Around) (outer : List PySem.Env) (s : Shared) (H : Hp) (E : XK), A.guards = X.A.guards → Room k (A.deeper (lamEnv X scope s.heap.objs.size f c')) → PL.E G (lamCx X A outer s H E scope f c') (fun cls d _ H => E cls d H) body gb)
    (hN : Ng[i]? = some a) (hv : Vis sg a) (hd : (a == ("__debug__" : Str)) = false) (hcd : (a == ("__classdict__" : Str)) = false) :
    PL.E G ((cxOf (L2.CX X.prog X.w) X.prog X.w X.K X.mg X.base Ng qg sg g cdg X.A X.stack s H Eg).tr pn xe) W (.Call (.Name a p1) [] [] p2) (fun ρ => lamIs ρ i f c' (X.env.qual ++ "<lambda>") σ fun ds => gb (embs ds)) := by
  refine ⟨fun pinsZ sZ σZ HZ Q IZ ⟨c1, ρ1, n1, P, PX, J, q, hg, hx⟩ => ?_⟩
  obtain ⟨ds, e1, q⟩ := lamIs_inv (show lamIs ρ1 i f c' (X.env.qual ++ "<lambda>") σ (fun ds => gb (embs ds)) n1 P PX from q)
  obtain ⟨es, hL⟩ := J.slots i _ e1
  refine wpAny_Call_Name_kw (thn ((pe_var (pos := p1) (i := i) hN hv hd hcd).run pinsZ sZ σZ HZ (fun v H1 => v = .ref f ∧ H1 = HZ) IZ ⟨.ref f, slot_some es, rfl, rfl⟩) fun u s1 ⟨v, H1, I1, r1, q1⟩ => ?_)
  obtain ⟨ev, eH⟩ := q1
  subst ev
  rw [eH] at I1
  obtain rfl : u = Value.ref f := r1
  have of1 : s1.heap.get? f = some (PySem.W.kla_obj "<lambda>" (X.env.qual ++ "<lambda>") params body scope (cloFrom X.env.cells scope.names []) pm c' ctv) := I1.base.keep f _ hf hfn hfr (fun z => nomatch (show f ∈ ([] : List Addr) from z))
  refine PySem.W.callWith_F0 ⟨_, _, _, _, of1⟩ ?_
  have un : Un (frs X.stack) [] H HZ s.heap s1.heap := I1.base
  obtain ⟨⟨oc, vs, t, hoc, hdc, hvc⟩, _, _⟩ := I1.hok c' _ hL.2.1
  have rc : codeAny (model X.prog X.w) (X.A.deeper (envOfC qg sg s.heap.objs.size g cdg)) (.call (.ref f) ⟨[], []⟩) (CR (L2.CX X.prog X.w) (envOfC qg sg s.heap.objs.size g cdg :: X.stack) X.prog X.w HZ s1 Q (WE W σZ)) s1 := by
    refine PySem.W.kla_callFunE hr.depth of1 rfl L.co L.gen rfl ⟨c', oc, vs, t, rfl, hoc, hdc, hvc⟩ ?_
    rw [hbind]
    refine wpAny_pure (wpAny_newFunctionEnv (fun y hy => (L.own y hy).2) (fun y hy => absurd hy (by simp)) (fun h₁ hns hsb => ⟨I1.nolimit.fresh _ hsb, ?_⟩) L.kind)
    show codeAny _ _ (.expr body (lamEnv X scope s1.heap.objs.size f c')) _ _
    have kp : ∀ b o, s1.heap.get? b = some o → h₁.get? b = some o := fun b o e => hsb.extBut b o (Nat.ne_of_lt (Heap.lt_size e)) (Heap.get?_push_of_some _ e)
    have JJ : Inv (lamCx X (X.A.deeper (envOfC qg sg s.heap.objs.size g cdg)) (envOfC qg sg s.heap.objs.size g cdg :: X.stack) s1 HZ (WE W σZ) scope f c') [] σ HZ { s1 with heap := h₁, toks := s1.toks + ([] : List (Str × Value)).length } :=
      lam_start2 I L I1.env0 hr.hd un hns kp
    refine PySem.W.kla_codeExpr (wpAny_mono ((hbody (X.A.deeper (envOfC qg sg s.heap.objs.size g cdg)) (envOfC qg sg s.heap.objs.size g cdg :: X.stack) s1 HZ (WE W σZ) rfl (hr.deeper _)).run [] _ _ HZ Q JJ ⟨_, embs ds, n1, P, PX, J.lam hL, q, fun d k v S' H' p gr I' r => hg d k v S' H' p gr (J.called (SI.after gr I') (.inl rfl)) r, fun x k S' H' cls dd p gr I' rx => hx x k S' H' cls dd p gr (J.called (SI.after gr I') (.inl rfl)) rx⟩) (fun v s' hq => ?_) fun e s' hq => hq)
    obtain ⟨w', H', J', rv, q⟩ := hq
    exact ⟨w', H', J'.os, J'.bare, J'.base, J'.hok, rv, q⟩
  refine wpAny_call (codeAny_mono rc fun r s' hq => ?_)
  cases r with
  | error e => exact passAt tk σZ pinsZ HZ s1 e s' I1 hq
  | ok fl =>
    cases fl with
    | ret u => exact I1.after hq
    | next => exact False.elim hq
    | brk => exact False.elim hq
    | cont => exact False.elim hq
end
/-- the body of a def that gets a lambda and calls it: dh makes its answer of the lambda's -/
def WalkL (G : PenK) (P : Program) (w : World) (K : PySem.W.Frag) (mg : Str → Option Value) (base : Heap) (kk : Nat) (x a : Str) (g : Addr) (st : Stmt) (Ng : List Str) (dh : W D → W D) : Prop :=
  ∀ (f c' : Addr) (q : Str) (σ : L2.St) (ds : List (Option D)) (call : Env → W D) (m : W D) (cdv : Value) (A : Around) (outer : List PySem.Env) (s : Shared) (H : Hp) (E : XK) (Wx : WX), A.guards = some [] → Room kk (A.deeper (envOfC x (defScope st) s.heap.objs.size g cdv)) → Takes (cxOf (L2.CX P w) P w K mg base Ng x (defScope st) g cdv A outer s H E) Wx →
    PassesOwn (model P w) (A.deeper (envOfC x (defScope st) s.heap.objs.size g cdv)) (envOfC x (defScope st) s.heap.objs.size g cdv) (cxOf (L2.CX P w) P w K mg base Ng x (defScope st) g cdv A outer s H E).xe → (∀ l, call (SV.lam f c' q σ ds :: l) = m) →
    (∀ (W : WX) (pn : List (Addr × Obj)) (xe : Value → Shared → Prop) (p1 p2 : Pos), Takes ((cxOf (L2.CX P w) P w K mg base Ng x (defScope st) g cdv A outer s H E).tr pn xe) W → PL.E G ((cxOf (L2.CX P w) P w K mg base Ng x (defScope st) g cdv A outer s H E).tr pn xe) W (.Call (.Name a p1) [] [] p2) call) →
    SG G (cxOf (L2.CX P w) P w K mg base Ng x (defScope st) g cdv A outer s H E) Wx (defBody st) (SV.lam f c' q σ ds :: List.replicate (Ng.length - 1) .un) EnT (dh m)
section
variable {G : PenK} {X : Cx} {Wx : WX}
/-- x(lambda: body) -/
theorem e_lamcall {x a : Str} {g cc P : Addr} {k : Nat} {fd : FuncData} {st : Stmt} {Ng : List Str} {dh : W D → W D} {params : Arguments} {body : Expr} {scope : Scope} {gb : Env → W D} {p lpos pos : Pos}
    (F : Fun X.K x x st g fd) (hbd : Binds X.K fd [a] []) (Sg : FnScope Ng [a] (defScope st)) (hNg : Ng[0]? = some a) (hva : Vis (defScope st) a) (walk : WalkL G X.prog X.w X.K X.mg X.base (k + 1) x a g st Ng dh)
    (hm : X.mg x = some (.ref g)) (hgd : X.A.guards = some []) (tk : Takes X Wx) (TB : TabB X.base X.mg cc P) (hcode : X.env.code = .ref cc) (hmT : (P, X.env.qual ++ "<lambda>") ∈ G.tab) (hu : ∀ p ∈ G.tab, p.1 = P → p.2 = X.env.qual ++ "<lambda>")
    (hr : Room (k + 2) X.A) (L : LamS X.env.scope scope) (hdef : defaultsOf params X.env = ([], [])) (hbind : ∀ (q : Str) (cl : List (Str × Addr)) (pm cv ctv : Value), bindArgs (PySem.W.kla_fn "<lambda>" q params body scope cl pm cv ctv) ⟨[], []⟩ = pure [])
    (hbody : ∀ (A : Around) (outer : List PySem.Env) (s : Shared) (H : Hp) (E : XK) (f c' : Addr), A.guards = some [] → Room k (A.deeper (lamEnv X scope s.heap.objs.size f c')) → PL.E G (lamCx X A outer s H E scope f c') (fun cls d _ H => E cls d H) body gb)
    (hg : Gl X x := by rfl) (hdb : (x == ("__debug__" : Str)) = false := by decide) (hd : (a == ("__debug__" : Str)) = false := by decide) (hcd : (a == ("__classdict__" : Str)) = false := by decide) :
    PL.E G X Wx (.Call (.Name x p) [.Lambda params body scope lpos] [] pos) (fun ρ => dh (gb (embs (dsOf ρ)))) := by
  refine ⟨fun pins s σ H Q I ⟨c, ρ, n, P0, PX, J, q, hgl, hx⟩ => ?_⟩
  obtain ⟨oc, od, kV, doc, pm, an, cdv, ct, osl, rfl, lk, hcg⟩ := F.ex
  refine wpAny_Call_Name_kw (ld_glob I hg hm ?_ hdb)
  refine PySem.W.callWith_K (h₀ := X.base) I.ok.mod.kin F.kp ?_ (by rfl) (by rfl)
  show wpAny _ _ (spliced ((false, eval (.Lambda params body scope lpos) X.env) :: backTo pos (starEach [] X.env))) _ _ s
  refine Calls.spliced_cons (lam_make3 I J TB hcode hmT hu hdef (L.has I.ok) fun f c' pm' ctv H1 s' I1 J1 g1 hf hfn hfr hco => ?_)
  refine Calls.spliced_nil ⟨I1.kIn, ?_⟩
  have hL : LamOk X.K (fun a => c.S a ∨ a = c') H1 c' (X.env.qual ++ "<lambda>") σ (dsOf ρ) := ⟨.inr rfl, hco, by rw [List.length_map, J1.len], fun i x e => by
    rw [List.getElem?_map] at e
    cases z : ρ[i]? with
    | none => rw [z] at e; cases e
    | some sv =>
      rw [z] at e
      cases sv with
      | d y => cases e; exact J1.slots i _ z
      | _ => cases e⟩
  have rc : codeAny (model X.prog X.w) X.A (.call (.ref g) ⟨[.ref f], []⟩) (CR (L2.CX X.prog X.w) X.stack X.prog X.w H1 s' Q (WE Wx σ)) s' := by
    refine run_ofS (N := Ng) (ps := [a]) (us := [.ref f]) (vs := [.ref f]) lk hcg Sg hr I1.env0 (hbd s' [.ref f] I1.kIn rfl) (.cons rfl .nil) rfl fun hr' => ?_
    refine ⟨_, walk f c' (X.env.qual ++ "<lambda>") σ (dsOf ρ) (fun ρh => lamIs ρh 0 f c' (X.env.qual ++ "<lambda>") σ fun ds => gb (embs ds)) _ cdv X.A X.stack s' H1 (WE Wx σ) (fun cls d _ H => WE Wx σ cls d H) hgd hr' (L2.takes_of rfl rfl rfl rfl) (passes_of rfl) (fun l => lamIs_eq l)
      (fun W pn xe p1 p2 tk' => e_act I1 L hf hfn hfr (hbind _ _ _ _ _) tk' hr' (fun A outer s H E hgA hr2 => hbody A outer s H E f c' (hgA.trans hgd) hr2) hNg hva hd hcd), ?_⟩
    have hN1 : [SV.lam f c' (X.env.qual ++ "<lambda>") σ (dsOf ρ)].length ≤ Ng.length := by
      cases Ng with
      | nil => cases hNg
      | cons _ _ => exact Nat.succ_le_succ (Nat.zero_le _)
    refine ⟨⟨fun a => c.S a ∨ a = c', H1, c.pen, fun a => H1 a ≠ none ∧ ¬ (c.S a ∨ a = c'), fun a => n.μ a ≠ none⟩, n, P0, PX, SI.entry (args := [SV.lam f c' (X.env.qual ++ "<lambda>") σ (dsOf ρ)]) hN1 J1.dom (fun p e => ⟨(J1.pen p e).1, (J1.pen p e).2.1, (J1.pen p e).2.2.1⟩) (fun q hq => ⟨(J1.tabN hq).1, (J1.tab q hq).2⟩) (J1.muOk c.pen fun _ h => h) ⟨.ref f, [], rfl, ⟨rfl, hL⟩, rfl⟩, q, ⟨?_, ?_, fun _ _ _ _ _ _ z => z.elim, fun _ _ _ _ _ _ z => z.elim⟩, fun x k σ' ρ' S' H' cls dd p gr I' rx => hx x k S' H' cls dd p (g1.trans gr) (J1.called (SI.after gr I') (.inl rfl)) rx⟩
    · rintro ρ' _ k σ' S' H' rfl p gr I'
      exact hgl .non k .non S' H' p (g1.trans gr) (J1.called (SI.after gr I') (.inl rfl)) rfl
    · rintro d _ k v σ' ρ' S' H' rfl p gr I' r
      exact hgl d k v S' H' p (g1.trans gr) (J1.called (SI.after gr I') (.inl rfl)) r
  refine wpAny_call (codeAny_mono rc fun r s2 hq => ?_)
  cases r with
  | error e => exact passAt tk σ pins H1 s' e s2 I1 hq
  | ok fl =>
    cases fl with
    | ret u => exact I1.after hq
    | next => exact False.elim hq
    | brk => exact False.elim hq
    | cont => exact False.elim hq
end
end PL

/-! The layer: the end of a law's row, with tables of code objects. -/
namespace PL
open PySem PySem.Spec PyProof.Rows L2 LamX
section
variable {P : Program} {w : World} {K : PySem.W.Frag} {mg mb : Str → Option Value}
/-- the law is called over a heap in which the script and the tables alone may be told -/
theorem law_coreT {k : Nat} {fa a : Addr} {cs : List (Addr × Addr)} {T : List (Addr × Str)} {fd : FuncData} {x : Str} {s : Shared} {vs : List Value} {ns : List Int} {H : Hp} (kin : K.In s.heap) (hns : s.heap.Ns mainGlobals mg) (hb : s.heap.Ns builtinsNs mb) (hbb : ∀ y : Str, y ≠ "__name__" → mb y = bootBuiltins y) (hlim : s.heap.NoLimit) (hgen : s.gens = #[])
    (hT : ∀ p ∈ cs, s.heap.get? p.2 = some { cls := .none, data := .fields #[] }) (nT : ∀ p ∈ cs, K.lookup p.2 = none) (C : ∀ p ∈ cs, PySem.W.CodeHd s.heap p.1 p.2) (hTT : ∀ q ∈ T, ∃ p ∈ cs, q.1 = p.2)
    (hbm : ∃ (bm : Addr) (ob : Obj), mg "__builtins__" = some (.ref bm) ∧ bm ≠ builtinsNs ∧ s.heap.get? bm = some ob ∧ ob.cls = .type "module" ∧ ob.dict = some builtinsNs ∧ ob.data = .plain)
    (ho : s.heap.get? a = some { cls := .type "list", data := .seq vs.toArray }) (hl : ns.length ≤ 63) (hr : Room k callerA) (F : ∀ base : Heap, K.In base → base.Ns mainGlobals mg → (∀ p ∈ cs, TabB base mg p.1 p.2) → FnG P w K mg base k fa fd [x] (spLawT K T)) (hbind : ∀ (s : Shared) (u : Value), BindsTo s fd ⟨[u], []⟩ [(x, u)])
    (only : ∀ b, H b ≠ none → (b = a ∧ ∃ o u, H b = some (.frz o (.lst u))) ∨ (b ∈ cs.map (·.2) ∧ H b = some (.tbl #[]))) (tb : ∀ p ∈ cs, H p.2 = some (.tbl #[])) (seq : SqL K H a (ns.map V.int)) (ok : HOk P w H s.heap) (notK : (∃ o u, H a = some (.frz o (.lst u))) → K.lookup a = none) :
    codeAny (model P w) callerA (.call (.ref fa) ⟨[.ref a], []⟩) (fun r s' => r = .ok (.ret (.bool true)) ∧ OldK s.heap s'.heap ∧ s'.os = s.os ∧ AllBare s'.gens) s := by
  have isT : ∀ b : Addr, b ∈ cs.map (·.2) → s.heap.get? b = some { cls := .none, data := .fields #[] } := fun b hb => by
    obtain ⟨p, hp, e⟩ := List.mem_map.mp hb
    rw [← e]; exact hT p hp
  -- what is told is a list, or a table
  have free : ∀ {b : Addr} {o : Obj}, s.heap.get? b = some o → (∀ v n, o.data ≠ .seq v n) → o.data ≠ .fields #[] → H b = none := fun {b o} e h1 h2 => by
    rcases Classical.em (H b = none) with z | z
    · exact z
    · rcases only b z with ⟨rfl, _⟩ | ⟨hm, _⟩
      · rw [ho] at e; cases e; exact (h1 _ _ rfl).elim
      · rw [isT b hm] at e; cases e; exact (h2 rfl).elim
  have dictOut : ∀ {b : Addr} {m : Str → Option Value}, s.heap.Ns b m → (hidT s.heap H).Ns b m := fun {b m} ⟨o, es, ep, e, d, r⟩ => ⟨o, es, ep, hidT_get e (free e (fun v n z => by rw [d] at z; cases z) fun z => by rw [d] at z; cases z), d, r⟩
  have kin' : K.In (hidT s.heap H) := fun b o e => hidT_get (kin b o e) (by
    rcases Classical.em (H b = none) with z | z
    · exact z
    · rcases only b z with ⟨rfl, hf⟩ | ⟨hm, _⟩
      · rw [notK hf] at e; cases e
      · obtain ⟨p, hp, ep⟩ := List.mem_map.mp hm
        rw [← ep, nT p hp] at e; cases e)
  have mod : Mod K mg (hidT s.heap H) := ⟨kin', dictOut hns, ⟨mb, dictOut hb, hbb⟩, by obtain ⟨mc, h1, h2⟩ := hlim; exact ⟨mc, dictOut h1, h2⟩⟩
  have TB : ∀ p ∈ cs, TabB (hidT s.heap H) mg p.1 p.2 := fun p hp => by
    have hTp := hT p hp
    refine ⟨?_, ?_, fun z => ?_⟩
    · obtain ⟨o, us, file, tf, flags, tg, inF, text, tt, e1, r1, r2, r3, r4⟩ := C p hp
      refine ⟨o, us, file, tf, flags, tg, inF, text, tt, hidT_get e1 (free e1 (fun v n z => by rw [r2] at z; cases z) fun z => ?_), r1, r2, r3, r4⟩
      rw [r2] at z
      cases z
      simp at r3
    · obtain ⟨bm, ob, b1, b2, b3, b4, b5, b6⟩ := hbm
      have nG : bm ≠ mainGlobals := fun q => by
        obtain ⟨o, es, ep, e, hd, _⟩ := hns
        rw [q, e] at b3; cases b3
        rw [hd] at b6; cases b6
      have nP : bm ≠ p.2 := fun q => by
        rw [q, hTp] at b3; cases b3; cases b6
      exact ⟨bm, ob, b1, b2, nG, nP, hidT_get b3 (free b3 (fun v n z => by rw [b6] at z; cases z) fun z => by rw [b6] at z; cases z), b4, b5, b6⟩
    · obtain ⟨o, es, ep, e, hd, _⟩ := hns
      rw [z, hTp] at e; cases e; cases hd
  have e0 : Env0 P w K mg (hidT s.heap H) callerA [] s H := ⟨rfl, mod, fun _ _ e => of_hidT e, Nat.le_of_eq (hidT_size _ _), trivial, fun b hb => absurd hb (by simp [frs]), ok, .of_eq hgen⟩
  refine codeAny_mono ((F _ kin' (dictOut hns) TB).run callerA [] s H ⟨[.ref a], []⟩ [.ref a] [.ref a] (fun v _ => v = .bl true) (fun _ _ _ => False) rfl hr e0 (hbind s (.ref a)) (.cons rfl .nil) ⟨a, ns, rfl, seq, hl, fun q hq => by
    obtain ⟨p, hp, e⟩ := hTT q hq
    rw [e]; exact tb p hp, fun _ => rfl⟩) fun r s' h => ?_
  cases r with
  | error e => obtain ⟨_, _, _, _, _, _, _, _, _, _, _, _, z⟩ := h; exact z.elim
  | ok fl =>
    cases fl with
    | ret u =>
      obtain ⟨v, H', os, bare, un, hok', r', rfl⟩ := h
      obtain rfl : u = Value.bool true := r'
      have key : ∀ b o, b ∉ cs.map (·.2) → s.heap.get? b = some o → s'.heap.get? b = some o := fun b o nb e => by
        rcases Classical.em (H b = none) with q | q
        · exact un.keep b o e q (by simp [frs]) (by simp)
        · rcases only b q with ⟨_, o2, u, h2⟩ | ⟨hm, _⟩
          · have e1 := (ok b _ h2).1
            rw [e] at e1
            cases e1
            exact (hok' b _ (un.frzs b o (.lst u) h2)).1
          · exact (nb hm).elim
      have grown : ∀ p ∈ cs, ∃ more : Array Value, s'.heap.get? p.2 = some { cls := .none, data := .fields more } := fun p hp => by
        obtain ⟨more, z⟩ := un.tbls p.2 #[] (tb p hp)
        exact ⟨_, hok' p.2 _ z⟩
      refine ⟨rfl, ⟨fun b o e => ?_, fun b o e => ?_⟩, os, bare⟩
      · rcases Classical.em (b ∈ cs.map (·.2)) with hb | hb
        · obtain ⟨p, hp, ep⟩ := List.mem_map.mp hb
          obtain ⟨more, hm⟩ := grown p hp
          rw [← ep] at e ⊢
          rw [hT p hp] at e
          cases e
          exact .inr (.inl ⟨((C p hp).tab (hT p hp)).isCodeTable, rfl, #[], more, rfl, by rw [Array.empty_append]; exact hm⟩)
        · exact .inl (key b o hb e)
      · rcases Classical.em (b ∈ cs.map (·.2)) with hb | hb
        · obtain ⟨p, hp, ep⟩ := List.mem_map.mp hb
          obtain ⟨more, hm⟩ := grown p hp
          rw [← ep]
          exact ⟨_, hm⟩
        · exact ⟨o, key b o hb e⟩
    | next => exact h.elim
    | brk => exact h.elim
    | cont => exact h.elim
theorem law_runT {k : Nat} {fa a : Addr} {cs : List (Addr × Addr)} {T : List (Addr × Str)} {fd : FuncData} {x : Str} {s : Shared} {vs : List Value} {ns : List Int} (kin : K.In s.heap) (hns : s.heap.Ns mainGlobals mg) (hb : s.heap.Ns builtinsNs mb) (hbb : ∀ y : Str, y ≠ "__name__" → mb y = bootBuiltins y) (hlim : s.heap.NoLimit) (hgen : s.gens = #[])
    (hT : ∀ p ∈ cs, s.heap.get? p.2 = some { cls := .none, data := .fields #[] }) (nT : ∀ p ∈ cs, K.lookup p.2 = none) (C : ∀ p ∈ cs, PySem.W.CodeHd s.heap p.1 p.2) (hTT : ∀ q ∈ T, ∃ p ∈ cs, q.1 = p.2)
    (hbm : ∃ (bm : Addr) (ob : Obj), mg "__builtins__" = some (.ref bm) ∧ bm ≠ builtinsNs ∧ s.heap.get? bm = some ob ∧ ob.cls = .type "module" ∧ ob.dict = some builtinsNs ∧ ob.data = .plain)
    (ho : s.heap.get? a = some { cls := .type "list", data := .seq vs.toArray }) (hi : IntsAre vs ns) (hl : ns.length ≤ 63) (hr : Room k callerA) (F : ∀ base : Heap, K.In base → base.Ns mainGlobals mg → (∀ p ∈ cs, TabB base mg p.1 p.2) → FnG P w K mg base k fa fd [x] (spLawT K T)) (hbind : ∀ (s : Shared) (u : Value), BindsTo s fd ⟨[u], []⟩ [(x, u)]) :
    codeAny (model P w) callerA (.call (.ref fa) ⟨[.ref a], []⟩) (fun r s' => r = .ok (.ret (.bool true)) ∧ OldK s.heap s'.heap ∧ s'.os = s.os ∧ AllBare s'.gens) s := by
  have rv := vals_ints hi
  have big : ns.length ≤ sizeLine := Nat.le_trans hl (by rw [sizeLine_eq]; decide)
  have isT : ∀ b : Addr, b ∈ cs.map (·.2) → s.heap.get? b = some { cls := .none, data := .fields #[] } := fun b hb => by
    obtain ⟨p, hp, e⟩ := List.mem_map.mp hb
    rw [← e]; exact hT p hp
  have aT : a ∉ cs.map (·.2) := fun z => by
    have q := isT a z
    rw [ho] at q
    cases q
  have memT : ∀ p ∈ cs, p.2 ∈ cs.map (·.2) := fun p hp => List.mem_map.mpr ⟨p, hp, rfl⟩
  have okT : ∀ b, b ∈ cs.map (·.2) → ∀ H : Hp, ObjOk P w H s.heap b (.tbl #[]) := fun b hb _ => isT b hb
  by_cases hk : K.lookup a = none
  · refine law_coreT (H := fun b => if b = a then some (.frz { cls := .type "list", data := .seq vs.toArray } (.lst (ns.map V.int))) else if b ∈ cs.map (·.2) then some (.tbl #[]) else none) kin hns hb hbb hlim hgen hT nT C hTT hbm ho hl hr F hbind (fun b z => ?_) (fun p hp => (if_neg (show ¬ p.2 = a from fun z => aT (z ▸ memT p hp))).trans (if_pos (memT p hp))) (.inl (.inr ⟨_, if_pos rfl⟩)) (fun b u z => ?_) fun _ => hk
    · by_cases e : b = a
      · exact .inl ⟨e, _, _, if_pos e⟩
      · by_cases e2 : b ∈ cs.map (·.2)
        · exact .inr ⟨e2, (if_neg e).trans (if_pos e2)⟩
        · exact absurd ((if_neg e).trans (if_neg e2)) z
    · by_cases e : b = a
      · have z2 := (if_pos e).symm.trans z
        cases z2
        subst e
        exact ⟨ho, by rw [List.length_map]; exact big, vs, _, rv, ho⟩
      · have z2 := (if_neg e).symm.trans z
        by_cases e2 : b ∈ cs.map (·.2)
        · have z3 := (if_pos e2).symm.trans z2
          cases z3
          exact okT b e2 _
        · have z3 := (if_neg e2).symm.trans z2
          cases z3
  · obtain ⟨o, ek⟩ := Option.ne_none_iff_exists'.mp hk
    have e := kin a o ek
    rw [ho] at e
    cases e
    refine law_coreT (H := fun b => if b ∈ cs.map (·.2) then some (.tbl #[]) else none) kin hns hb hbb hlim hgen hT nT C hTT hbm ho hl hr F hbind (fun b z => ?_) (fun p hp => if_pos (memT p hp)) (.inr ⟨_, vs.toArray, _, ek, rfl, rfl, rfl, by rw [List.size_toArray, hi.length]; exact big, by simpa using rv⟩) (fun b u z => ?_) fun ⟨o, u, z⟩ => ?_
    · by_cases e2 : b ∈ cs.map (·.2)
      · exact .inr ⟨e2, if_pos e2⟩
      · exact absurd (if_neg e2) z
    · by_cases e2 : b ∈ cs.map (·.2)
      · have z3 := (if_pos e2).symm.trans z
        cases z3
        exact okT b e2 _
      · have z3 := (if_neg e2).symm.trans z
        cases z3
    · have z3 := (if_neg aT).symm.trans z
      cases z3
/-- the tables of the module's defs are empty -/
def TabsOf (q : Program) (mg : Str → Option Value) (h : Heap) : Prop := ∀ x : Str, ((recsOf q).any fun e => e.name == x) = true → ∃ a o fd c P, mg x = some (.ref a) ∧ h.get? a = some o ∧ o.data = .func fd ∧ fd.code = .ref c ∧ h.IsCode c P #[] ∧ h.TableAt c P #[]
theorem TabsOf.at {K : PySem.W.Frag} {q : Program} {mg : Str → Option Value} {h : Heap} {x : Str} {f c P : Addr} {fd : FuncData} {oc : Value} {od : Option Addr} {osl : Array (Option Value)} (T : TabsOf q mg h) (hx : ((recsOf q).any fun e => e.name == x) = true) (X : K.In h) (hm : mg x = some (.ref f)) (lk : K.lookup f = some ⟨oc, od, .func fd, osl⟩)
    (ct : fd.code = .ref c ∧ ∃ (o : Obj) (vs : Array Value), h.get? c = some o ∧ o.data = .fields vs ∧ vs[11]? = some (.ref P)) : PySem.W.CodeHd h c P ∧ h.get? P = some { cls := .none, data := .fields #[] } := by
  obtain ⟨a, o, fd', c', P', h1, h2, h3, h4, h5, h6⟩ := T x hx
  rw [hm] at h1
  cases h1
  have g1 := X _ _ lk
  rw [h2] at g1
  cases g1
  cases h3
  obtain ⟨e1, o1, vs, e2, e3, e4⟩ := ct
  rw [h4] at e1
  cases e1
  obtain ⟨⟨o2, vs2, f1, f2, f3, f4⟩, f5⟩ := id h6
  rw [e2] at f1
  cases f1
  rw [e3] at f3
  cases f3
  rw [e4] at f4
  cases f4
  exact ⟨.of h5 h6, f5⟩
/-- THE END of a law's row, with tables -/
theorem law_endT {l : PySem.W.OpenLaw} {k : Nat} {q : Program} {loose : List Str} {XP : (Str → Option Value) → Heap → Prop} {YP : World → Heap → Prop} {d : DefRec} {Kf : Params → PySem.W.Frag} {x : Str} (hn : l.most = some 63) (hdf : d.params.defaults = []) (hr : Room k callerA) (hY : ∀ (w : World) (h : Heap), YP w h → (Kf w.params).In h)
    (F : ∀ (w : World) (mg : Str → Option Value) (fa : Addr) (h : Heap), YP w h → (Kf w.params).In h → h.Ns mainGlobals mg → mg d.name = some (.ref fa) → TabsOf q mg h → ∃ (fd : FuncData) (cs : List (Addr × Addr)) (T : List (Addr × Str)), (∀ p ∈ cs, h.get? p.2 = some { cls := .none, data := .fields #[] }) ∧ (∀ p ∈ cs, (Kf w.params).lookup p.2 = none) ∧ (∀ p ∈ cs, PySem.W.CodeHd h p.1 p.2) ∧ (∀ q ∈ T, ∃ p ∈ cs, q.1 = p.2) ∧
      (∀ (s : Shared) (u : Value), BindsTo s fd ⟨[u], []⟩ [(x, u)]) ∧ ∀ base : Heap, (Kf w.params).In base → base.Ns mainGlobals mg → (∀ p ∈ cs, TabB base mg p.1 p.2) → FnG l.prog w (Kf w.params) mg base k fa fd [x] (spLawT (Kf w.params) T)) :
    PySem.W.WalkO q loose XP YP l.row.toRowW d [] (fun f vs => PySem.call f vs) := by
  refine Att.attach_callB hn hdf fun w s₀ s₁ mg mb fa o pm cd doc a vs ns Gr Y ho hd hcd hmg hobj hi hl _ hg => ?_
  obtain ⟨fd, cs, T, hT, nT, C, hTT, hb, hF⟩ := F w mg fa _ Y (hY w _ Y) Gr.T.g hmg (fun x hx => by
    obtain ⟨dL, hm, hn1⟩ := List.any_eq_true.mp hx
    have hn2 : dL.name = x := beq_iff_eq.mp hn1
    rw [← hn2]
    exact Gr.T.tab dL hm)
  exact law_runT (hY w _ Y) Gr.T.g Gr.T.b Gr.T.builtins Gr.T.nolimit hg hT nT C hTT Gr.T.bmain hobj hi hl hr hF hb
end
end PL

/-! The layer: count and index of a list of truth values. -/
namespace PL
open PySem PySem.Spec L2
section
variable {X : Cx}
end
section
variable {G : PenK} {X : Cx} {Wx : WX}
theorem u65 {A : Around} {k : Nat} (r : Room k A) : A.units + 65 < cLine := by
  have := r.un
  omega
/-- class names: of the program, of the builtins -/
theorem nmG {x : Str} {c : Value} (hd : (x == ("__debug__" : Str)) = false) (hm : X.mg x = some c) (hg : Gl X x := by rfl) : Names X x c := ⟨hg, hd, .inl hm⟩
theorem nmB {x : Str} {c : Value} (hd : (x == ("__debug__" : Str)) = false) (hm : X.mg x = none) (hv : bootBuiltins x = some c) (hn : x ≠ "__name__") (hg : Gl X x := by rfl) : Names X x c := ⟨hg, hd, .inr ⟨hm, hv, hn⟩⟩
theorem lz {α : Type} {xs : List α} (n : Nat) (h : xs.length = n) (h2 : n ≤ sizeLine) : xs.length ≤ sizeLine := h ▸ h2
/-- the clauses of a list, one by one -/
theorem ap_nil {α : Type} {p : α → Prop} : ∀ x ∈ ([] : List α), p x := fun _ h => nomatch h
theorem ap_cons {α : Type} {p : α → Prop} {a : α} {l : List α} (h : p a) (t : ∀ x ∈ l, p x) : ∀ x ∈ a :: l, p x := fun x hx => by
  rcases List.mem_cons.mp hx with e | e
  · rw [e]; exact h
  · exact t x e
/-- the def statement j of a class's body -/
def clsDef (s : Stmt) (j : Nat) : Stmt := match s with
  | .ClassDef _ _ _ body _ _ _ _ _ _ _ => body.getD j (.Pass ⟨0, 0, 0, 0⟩)
  | _ => .Pass ⟨0, 0, 0, 0⟩
/-- what the kernel reads of an error's class -/
def oexChk (K : PySem.W.Frag) (C : Addr) (bmB : List Value) (newId : String) (f : Str) : Bool := PySem.W.excInitIn K C bmB newId && PySem.W.excOver K C bmB && PySem.W.hasDictIn K C && (PySem.W.findIn K (.ref C) "__setattr__" == some (some (.builtin "object.__setattr__"))) &&
  (PySem.W.subIn K (.ref C) (.type "BaseException") == some true) && (PySem.W.typeIn K (.ref C) == some (.type "type")) && PySem.W.keepIn K (.ref C) && (PySem.W.findIn K (.ref C) f == some none)
theorem oexChk_ok {K : PySem.W.Frag} {C : Addr} {bmB : List Value} {newId : String} {f : Str} (h : oexChk K C bmB newId f = true) : OexB K C bmB newId ∧ PySem.W.findIn K (.ref C) f = some none := by
  unfold oexChk at h
  simp only [Bool.and_eq_true, beq_iff_eq] at h
  obtain ⟨⟨⟨⟨⟨⟨⟨h1, h2⟩, h3⟩, h4⟩, h5⟩, h6⟩, h7⟩, h8⟩ := h
  exact ⟨⟨h1, h2, h3, h4, h5, h6, h7⟩, h8⟩
/-- the classes that have a field -/
def fldChk (K : PySem.W.Frag) (as : List (Str × Addr)) (f : Str) : Bool := as.all fun a => xfB K a.2 && (PySem.W.findIn K (.ref a.2) f == some none)
theorem fldOk_of {K : PySem.W.Frag} {mg : Str → Option Value} {as : List (Str × Addr)} {f : Str} (hm : ∀ a ∈ as, mg a.1 = some (.ref a.2)) (h : fldChk K as f = true) : FldOk K mg (as.map fun a => a.1) f := fun y A e hy => by
  obtain ⟨a, ha, ea⟩ := List.mem_map.mp hy
  have q := List.all_eq_true.mp h a ha
  rw [Bool.and_eq_true, beq_iff_eq] at q
  have := hm a ha
  rw [ea, e] at this
  cases this
  exact ⟨xfB_ok q.1, q.2⟩
theorem errI_of2 {K : PySem.W.Frag} {mg : Str → Option Value} {t : ETab} {as : List (Str × Addr)} {ns : List Str} {cs : List (Str × Value)} (hm : ∀ a ∈ as, mg a.1 = some (.ref a.2)) (hns : as.map (·.1) = ns) (hk : t.all (fun p => ns.any fun a => a == p.1) = true) (h : errChk K t as cs = true) : ErrI K mg t cs :=
  errI_of hm (by rw [← hk, ← hns]; congr 1; funext p; rw [List.any_map]; rfl) h
end
end PL

/-! errors: raise X() of a class without fields. -/
namespace PL
open PySem PySem.Spec PyProof.Rows L2
section
variable {X : Cx} {C : Addr} {bmB : List Value} {B newId initId : String}
end
section
variable {G : PenK} {X : Cx} {Wx : WX} {γ : Type} {En : Enz γ} {ρ : Env} {rest : List Stmt} {m : W γ}
end
end PL

/-! The layer: min(xs, default=None) of ints. -/
namespace PL
open PySem PySem.Spec PyProof.Rows L2
section
variable {G : PenK} {X : Cx} {Wx : WX}
end
end PL

/-! The layer: objects that are changed (lists of data without parts, of objects), told in the state. -/
namespace PL
open PySem PySem.Spec PyProof.Rows L2
def PenK.wc (G : PenK) (b : Bool) : PenK := { G with chg := b }
def setM (μ : Addr → Option Nd) (a : Addr) (nd : Nd) : Addr → Option Nd := fun b => if b = a then some nd else μ b
theorem setM_same {μ : Addr → Option Nd} {a : Addr} {nd : Nd} : setM μ a nd a = some nd := if_pos rfl
theorem setM_ne {μ : Addr → Option Nd} {a b : Addr} {nd : Nd} (h : b ≠ a) : setM μ a nd b = μ b := if_neg h
theorem setM_some {μ : Addr → Option Nd} {a b : Addr} {nd : Nd} (h : μ b ≠ none) : setM μ a nd b ≠ none := by
  unfold setM
  split
  · exact fun z => nomatch z
  · exact h
section
variable {G : PenK} {K : PySem.W.Frag} {c : C} {σ : L2.St} {ρ : Env} {H : Hp} {n : Nt} {a : Addr} {o : HO} {nd : Nd}
/-- a thing of nobody's becomes an object -/
theorem SI.mkObj (hc : G.chg = true) (I : SI G K c σ H ρ n) (y : FreshAt c n σ ρ a) (r : NdOk K c.S H a nd) (hp : ¬ G.pent c a) : SI G K c σ H ρ ⟨n.n, setM n.μ a nd⟩ := by
  refine ⟨I.len, I.slots, fun i sv b e ho es => ⟨(I.own i sv b e ho es).1, (I.own i sv b e ho es).2.1, ?_⟩, I.apart, I.dom, I.fr, I.pen, I.no, I.tab, fun b md e => ?_, fun b h => ⟨setM_some (I.mu0 b h).1, (I.mu0 b h).2⟩, fun z => by rw [hc] at z; cases z⟩
  · show setM n.μ a nd b = none
    rw [setM_ne (show b ≠ a from fun z => y.2 i sv e ho (by rw [← z]; exact es))]
    exact (I.own i sv b e ho es).2.2
  · have e : setM n.μ a nd b = some md := e
    by_cases z : b = a
    · rw [z] at e ⊢
      rw [setM_same] at e
      cases e
      exact ⟨r, y.1.1, .inr y.1.2.1, hp⟩
    · rw [setM_ne z] at e
      exact I.mu b md e
/-- an object is changed -/
theorem SI.st (I : SI G K c σ H ρ n) (ha : n.μ a ≠ none) (r : NdOk K c.S (upd H a o) a nd) : SI G K c σ (upd H a o) ρ ⟨n.n, setM n.μ a nd⟩ ∧ Grow c.S c.S H (upd H a o) := by
  obtain ⟨nd0, e0⟩ := Option.ne_none_iff_exists'.mp ha
  obtain ⟨m1, m2, m3, m4⟩ := I.mu a nd0 e0
  have g : Grow c.S c.S H (upd H a o) := ⟨fun _ q => q, fun b q => upd_ne fun z => m2 (z ▸ q)⟩
  have neO : ∀ i sv b, ρ[i]? = some sv → sv.isOwn = true → slot σ i = some (.ref b) → b ≠ a := fun i sv b e ho es z => by
    have := (I.own i sv b e ho es).2.2
    rw [z, e0] at this
    cases this
  refine ⟨⟨I.len, fun i sv e => (I.slots i sv e).grow g fun b eb ho => upd_ne (neO i sv b e ho eb), fun i sv b e ho es => ⟨(I.own i sv b e ho es).1, (I.own i sv b e ho es).2.1, ?_⟩, I.apart, fun b q => by rw [g.eq b q]; exact I.dom b q, fun b u e hn => ?_, fun p e => ?_, I.no, fun q e => ⟨(I.tab q e).1, (I.tab q e).2.grow g (upd_ne fun z => m4 (.inr ⟨q, e, z.symm⟩))⟩, fun b md e => ?_, fun b h => ⟨setM_some (I.mu0 b h).1, (I.mu0 b h).2⟩, fun z => ?_⟩, g⟩
  · show setM n.μ a nd b = none
    rw [setM_ne (neO i sv b e ho es)]
    exact (I.own i sv b e ho es).2.2
  · rw [upd_ne fun z => by
      rcases m3 with w | w
      · exact hn (.inr (z ▸ w))
      · rw [z, w] at e; cases e]
    exact I.fr b u e hn
  · obtain ⟨h1, h2, h3, h4, h5⟩ := I.pen p e
    exact ⟨G.dep h1 (upd_ne fun z => m4 (.inl ⟨p, e, .inl z.symm⟩)) (upd_ne fun z => m4 (.inl ⟨p, e, .inr z.symm⟩)), h2, h3, h4, h5⟩
  · have e : setM n.μ a nd b = some md := e
    by_cases z : b = a
    · rw [z] at e ⊢
      rw [setM_same] at e
      cases e
      exact ⟨r, m2, m3, m4⟩
    · rw [setM_ne z] at e
      exact ⟨(I.mu b md e).1.move (upd_ne z), (I.mu b md e).2⟩
  · have := I.mz z a
    rw [e0] at this
    cases this
end
theorem reps_ob {K : PySem.W.Frag} {S : Addr → Prop} {H : Hp} : ∀ {xs : List D} {vs : List V}, xs.all D.sc = true → Reps K S H xs vs → Paired (RepO K S H) (xs.map .d) vs
  | [], _, _, h => by
    have e : _ = [] := h
    rw [e]
    exact .nil
  | x :: xs, _, z, h => by
    obtain ⟨v, ws, rfl, r, q⟩ := h
    rw [List.all_cons, Bool.and_eq_true] at z
    exact .cons ⟨z.1, r⟩ (reps_ob z.2 q)
theorem paired_len {α β : Type} {r : α → β → Prop} : ∀ {xs : List α} {ys : List β}, Paired r xs ys → ys.length = xs.length
  | _, _, .nil => rfl
  | _, _, .cons _ t => congrArg (· + 1) (paired_len t)
theorem pairedO_at {α β : Type} {r : α → β → Prop} : ∀ {xs : List α} {ys : List β} {i : Nat} {x : α}, Paired r xs ys → xs[i]? = some x → ∃ y, ys[i]? = some y ∧ r x y
  | _, _, _, _, .nil, e => by cases e
  | _, _, 0, _, .cons h _, e => by cases e; exact ⟨_, rfl, h⟩
  | _, _, i + 1, _, .cons _ t, e => pairedO_at (i := i) t e
theorem paired_set {α β : Type} {r : α → β → Prop} {x : α} {y : β} : ∀ (i : Nat) {xs : List α} {ys : List β}, Paired r xs ys → r x y → Paired r (xs.set i x) (ys.set i y)
  | _, _, _, .nil, _ => .nil
  | 0, _, _, .cons _ t, h => .cons h t
  | i + 1, _, _, .cons h t, q => .cons h (paired_set i t q)
/-! ### a name that holds an object -/
def objAt {α : Type} (ρ : Env) (i : Nat) (f : Addr → W α) : W α := match svAt ρ i with
  | .o a => f a
  | _ => stuck
theorem objAt_inv {α : Type} {ρ : Env} {i : Nat} {f : Addr → W α} {n : Nt} {P : α → Nt → Prop} {PX : Exc → Nt → Prop} (h : objAt ρ i f n P PX) : ∃ a, ρ[i]? = some (.o a) ∧ f a n P PX := by
  unfold objAt svAt at h
  cases e : ρ[i]? with
  | none => rw [e] at h; exact h.elim
  | some sv =>
    rw [e] at h
    cases sv with
    | o a => exact ⟨a, rfl, h⟩
    | _ => exact h.elim
def lstM (n : Nt) (a : Addr) : Option (List Ob) := match n.μ a with
  | some (.lst xs) => some xs
  | _ => none
theorem lstM_some {n : Nt} {a : Addr} {xs : List Ob} (h : lstM n a = some xs) : n.μ a = some (.lst xs) := by
  unfold lstM at h
  split at h
  · rename_i e; cases h; exact e
  · cases h
/-- what stands at a place of an object: data -/
def ixOb (a : Addr) (d : D) : W D := fun n P _ => ∃ (xs : List Ob) (j : Int) (x : D), lstM n a = some xs ∧ d = .int j ∧ atI xs j = some (.d x) ∧ P x n
/-- .. is set -/
def stOb (a : Addr) (k v : D) : W Unit := fun n P _ => ∃ (xs : List Ob) (j : Int) (t : Nat), lstM n a = some xs ∧ k = .int j ∧ ixN xs.length j = some t ∧ v.sc = true ∧ P () ⟨n.n, setM n.μ a (.lst (xs.set t (.d v)))⟩
/-- a new object -/
def mkL (xs : List D) : W Addr := fun n P _ => xs.all D.sc = true ∧ ∀ a, n.μ a = none → P a ⟨n.n, setM n.μ a (.lst (xs.map .d))⟩
theorem atI_paired {α β : Type} {r : α → β → Prop} {xs : List α} {ys : List β} {i : Int} {x : α} (p : Paired r xs ys) (h : atI xs i = some x) : ∃ y, atI ys i = some y ∧ r x y := by
  unfold atI at h ⊢
  rw [paired_len p]
  cases e : ixN xs.length i with
  | none => rw [e] at h; cases h
  | some j =>
    rw [e] at h
    exact pairedO_at p h
section
variable {G : PenK} {X : Cx} {Wx : WX} {γ : Type} {En : Enz γ} {ρ : Env} {rest : List Stmt} {m : W γ}
theorem e_ixObj {x : Str} {px pos : Pos} {b : Expr} {gb : Env → W D} (i : Nat) (hb : E G X Wx b gb) (hs : PlainIx b := by intro _ _; rfl) (hN : X.N[i]? = some x := by rfl) (hv : Vis X.env.scope x := by first | exact Or.inl rfl | exact Or.inr (Or.inl rfl) | exact Or.inr (Or.inr rfl)) (hd : (x == ("__debug__" : Str)) = false := by decide) (hcd : (x == ("__classdict__" : Str)) = false := by decide) :
    E G X Wx (.Subscript (.Name x px) b pos) (fun ρ => objAt ρ i fun a => bnd (gb ρ) fun d => ixOb a d) :=
  weakE (pe_ix ix_list (pe_var hN hv hd hcd) hb hs) fun σ H Q ⟨c, ρ, n, P, PX, I, q, hg, hx⟩ => by
    obtain ⟨a, e1, q⟩ := objAt_inv q
    have e2 : slot σ i = some (.ref a) := I.slots i _ e1
    refine ⟨.ref a, slot_some e2, tE.bnd (f := fun d => ixOb a d) I q hx fun d k v S' H' p g I' hx' r' => ?_⟩
    obtain ⟨xs, j, x, h1, rfl, h3, p⟩ := p
    obtain ⟨⟨vs, m1, z, pr⟩, _⟩ := I'.mu a _ (lstM_some h1)
    obtain ⟨y, h4, h5⟩ := atI_paired pr h3
    cases r'
    exact ⟨a, vs, j, y, rfl, rfl, SqL.of m1, h4, hg x k y S' H' p g I' h5.2⟩
theorem s_setObj {x : Str} {px ps pos : Pos} {k e : Expr} {gk ge : Env → W D} (i : Nat) (hk : E G X Wx k gk) (he : E G X Wx e ge) (hN : X.N[i]? = some x := by rfl) (hv : Vis X.env.scope x := by first | exact Or.inl rfl | exact Or.inr (Or.inl rfl) | exact Or.inr (Or.inr rfl)) (hd : (x == ("__debug__" : Str)) = false := by decide)
    (hcd : (x == ("__classdict__" : Str)) = false := by decide) (hs : swapsWithSole [.Subscript (.Name x px) k ps] e pos.line X.env = pure false := by rfl) (hw : swappedStores [.Subscript (.Name x px) k ps] e X.env = pure none := by rfl) (h1 : (assignEach [.Subscript (.Name x px) k ps] X.env).map (·.2) = [assign (.Subscript (.Name x px) k ps) X.env] := by rfl)
    (ha : ∀ v, assign (.Subscript (.Name x px) k ps) X.env v = (do
      let ov ← holding [v] (eval (.Name x px) X.env)
      let iv ← holding [v, ov] (eval k X.env)
      standAt ps
      holding [v, ov, iv] (setItem ov iv v)
      release [v, ov, iv] []) := by intro _; rfl) :
    St1 G X Wx (.Assign [.Subscript (.Name x px) k ps] e pos) (fun ρ => objAt ρ i fun a => bnd (bnd (ge ρ) fun v => bnd (gk ρ) fun k => stOb a k v) fun _ => ret (.nx ρ)) :=
  weakS (ps_asg he (pg_sub (pe_var hN hv hd hcd) hk set_list ha) hs hw h1) fun Dn σ H ⟨c, ρ, n, P, PX, I, q, hg, hx⟩ => by
    obtain ⟨a, e1, q⟩ := objAt_inv q
    have e2 : slot σ i = some (.ref a) := I.slots i _ e1
    refine tE.bnd (α := Out) (P := P) (f := fun v => bnd (gk ρ) fun k => bnd (stOb a k v) fun _ => ret (Out.nx ρ)) I q hx.x fun d k0 v S' H' p g I' hx' r' => ⟨.ref a, slot_some e2, tE.bnd (α := Out) (P := P) (f := fun k => bnd (stOb a k d) fun _ => ret (Out.nx ρ)) I' p hx' fun kd k1 kv S2 H2 p2 g2 I2 hx2 rk => ?_⟩
    obtain ⟨xs, j, t, h1, rfl, h3, hsc, p2⟩ := p2
    have hm := lstM_some h1
    obtain ⟨⟨vs, m1, z, pr⟩, _⟩ := I2.mu a _ hm
    cases rk
    obtain ⟨I3, g3⟩ := I2.st (a := a) (o := .lst (vs.set t v)) (nd := .lst (xs.set t (.d d))) (by rw [hm]; exact fun z => nomatch z) ⟨_, upd_same, by rw [List.length_set]; exact z, paired_set t (paired_imp (fun _ _ h => h.move) pr) ⟨hsc, r'.sc hsc⟩⟩
    exact ⟨a, vs, j, t, rfl, rfl, m1, by rw [paired_len pr]; exact h3, hg.1 _ _ σ _ _ p2 ((g.trans g2).trans g3) I3⟩
theorem sg_setObj {x : Str} {px ps pos : Pos} {k e : Expr} {gk ge : Env → W D} {a : Addr} {m0 : W Unit} {kk : W γ} (i : Nat) (hk : E G X Wx k gk) (he : E G X Wx e ge) (hx : svAt ρ i = .o a) (hg : (bnd (ge ρ) fun v => bnd (gk ρ) fun k => stOb a k v) = m0) (hr : SG G X Wx rest ρ En kk)
    (hN : X.N[i]? = some x := by rfl) (hv : Vis X.env.scope x := by first | exact Or.inl rfl | exact Or.inr (Or.inl rfl) | exact Or.inr (Or.inr rfl)) (hd : (x == ("__debug__" : Str)) = false := by decide)
    (hcd : (x == ("__classdict__" : Str)) = false := by decide) (hs : swapsWithSole [.Subscript (.Name x px) k ps] e pos.line X.env = pure false := by rfl) (hw : swappedStores [.Subscript (.Name x px) k ps] e X.env = pure none := by rfl) (h1 : (assignEach [.Subscript (.Name x px) k ps] X.env).map (·.2) = [assign (.Subscript (.Name x px) k ps) X.env] := by rfl)
    (ha : ∀ v, assign (.Subscript (.Name x px) k ps) X.env v = (do
      let ov ← holding [v] (eval (.Name x px) X.env)
      let iv ← holding [v, ov] (eval k X.env)
      standAt ps
      holding [v, ov, iv] (setItem ov iv v)
      release [v, ov, iv] []) := by intro _; rfl) :
    SG G X Wx (.Assign [.Subscript (.Name x px) k ps] e pos :: rest) ρ En (bnd m0 fun _ => kk) :=
  sg_drop (s_setObj i hk he hN hv hd hcd hs hw h1 ha) (by
    unfold objAt
    rw [hx, ← hg]) hr
/-! ### objects as arguments -/
theorem v_obj {x : Str} {pos : Pos} {es : List Expr} {gs : Env → W (List SV)} (i : Nat) (hs : AV G X Wx es gs) (hN : X.N[i]? = some x := by rfl) (hv : Vis X.env.scope x := by first | exact Or.inl rfl | exact Or.inr (Or.inl rfl) | exact Or.inr (Or.inr rfl)) (hd : (x == ("__debug__" : Str)) = false := by decide)
    (hcd : (x == ("__classdict__" : Str)) = false := by decide) (hp : starEach (.Name x pos :: es) X.env = (false, eval (.Name x pos) X.env) :: starEach es X.env := by rfl) : AV G X Wx (.Name x pos :: es) (fun ρ => objAt ρ i fun a => bnd (gs ρ) fun xs => ret (.o a :: xs)) :=
  weakA (pa_cons (pe_var hN hv hd hcd) hs hp) fun σ H Q ⟨c, ρ, n, P, PX, I, q, hg, hx⟩ => by
    obtain ⟨a, e1, q⟩ := objAt_inv q
    have e2 : slot σ i = some (.ref a) := I.slots i _ e1
    exact ⟨.ref a, slot_some e2, c, ρ, n, fun ds k => P (.o a :: ds) k, PX, I, q, fun ds k2 us S2 H2 p2 g2 I2 r2 => hg (.o a :: ds) k2 (.ref a :: us) S2 H2 p2 g2 I2 ⟨_, us, rfl, rfl, r2⟩, hx⟩
theorem v_mkL {e : Expr} {es : List Expr} {g : Env → W (List D)} {gs : Env → W (List SV)} (hc : G.chg = true) (h : EO G X Wx e g) (hs : AV G X Wx es gs) (hp : starEach (e :: es) X.env = (false, eval e X.env) :: starEach es X.env := by rfl) :
    AV G X Wx (e :: es) (fun ρ => bnd (bnd (g ρ) mkL) fun a => bnd (gs ρ) fun xs => ret (.o a :: xs)) :=
  weakA (pa_cons h hs hp) fun σ H Q ⟨c, ρ, n, P, PX, I, q, hg, hx⟩ => tO.bnd (f := fun xs => bnd (mkL xs) fun a => bnd (gs ρ) fun ys => ret (SV.o a :: ys)) I q hx fun xs k a vs S' H' p g I' hx' e z r f => by
    obtain ⟨hsc, p⟩ := p
    have hp' : ¬ G.pent (c.to S') a := fun w => I'.penOld f.1.2.1 (.inl w)
    have I2 := SI.mkObj hc I' f (nd := .lst (xs.map .d)) ⟨vs, e, by rw [List.length_map]; exact z, reps_ob hsc r⟩ hp'
    exact ⟨c.to S', ρ, _, fun ds k => P (.o a :: ds) k, PX, I2, p a f.1.2.2, fun ds k2 us S2 H2 p2 g2 I3 r2 => hg (.o a :: ds) k2 (.ref a :: us) S2 H2 p2 (g.trans g2) I3 ⟨.ref a, us, rfl, rfl, r2⟩, hx'⟩
end
/-! ### an item of a list of one's own is set -/
section
variable {G : PenK} {X : Cx} {Wx : WX} {γ : Type} {En : Enz γ} {ρ : Env} {rest : List Stmt} {m : W γ}
end
end PL

/-! The layer: x in a list of data of any depth. -/
namespace PL
open PySem PySem.Spec PyProof.Rows L2
def inDp (neg : Bool) (x y : D) : W D := match y with
  | .lst ys => grd (okD x = true ∧ okD (.lst ys) = true) (ret (.bl (if neg then !((pys ys).any fun z => PyData.eqv z (py x)) else (pys ys).any fun z => PyData.eqv z (py x))))
  | _ => stuck
section
variable {G : PenK} {X : Cx} {Wx : WX}
theorem v2_inDp : V2 G X Wx (inDp false) (rInD X.K) := by
  intro c σ ρ H n P PX d e v w Q I rd re q hg hx
  cases e with
  | lst ys =>
    obtain ⟨⟨h1, h2⟩, q⟩ := q
    have r2 := Rep.dp (.lst ys) w (SeqAt.canLay_of_shaped h2) re
    exact ⟨py d, pys ys, Rep.dp d v (SeqAt.canLay_of_shaped h1) rd, r2, h1, h2, hg.at (d := .bl _) q I rfl⟩
  | _ => exact q.elim
theorem cm_inDp (hu : X.A.units + 65 < cLine) : Cm G X Wx .In (inDp false) := ⟨_, op_inD hu, v2_inDp⟩
variable {γ : Type} {En : Enz γ} {ρ ρ' : Env} {rest : List Stmt} {m : W γ}
/-- a, b = e, where both are plain -/
theorem sg_asg2P {tg e : Expr} {pos : Pos} {g : Env → W D} {z1 z2 : D} (i j L : Nat) (h : E G X Wx e g) (ht : PTg X tg (.tp [.nm i, .nm j])) (hg : bnd (g ρ) unp2 = ret (z1, z2)) (hL : ρ.length = L) (hi : i < L) (hj : j < L) (hij : j ≠ i) (hρ : (ρ.set i (.d z1)).set j (.d z2) = ρ') (hr : SG G X Wx rest ρ' En m)
    (h1 : (assignEach [tg] X.env).map (·.2) = [assign tg X.env] := by rfl) (hs : swapsWithSole [tg] e pos.line X.env = pure false := by rfl) (hw : swappedStores [tg] e X.env = pure none := by rfl) : SG G X Wx (.Assign [tg] e pos :: rest) ρ En m :=
  sg_asg2 (m0 := ret ()) (f1 := fun _ => z1) (f2 := fun _ => z2) (k := fun _ => m) (ρ' := fun _ => ρ') i j L h ht hg (fun _ _ _ _ => rfl) hL hi hj hij (fun _ => hρ) (fun _ => hr) h1 hs hw
end
end PL

/-! Plain laws with objects: GenM S m c Q says that m, begun where S holds of the objects, ends under Q with S, after at most c draws. -/
namespace PL
open PySem PySem.Spec L2
def GenM {α : Type} (S : (Addr → Option Nd) → Prop) (m : W α) (c : Nat) (Q : α → Prop) : Prop := ∀ (n : Nt) (P : α → Nt → Prop) (PX : Exc → Nt → Prop), n.n + c ≤ drawMax → S n.μ → (∀ a (k : Nt), Q a → n.n ≤ k.n → k.n ≤ n.n + c → S k.μ → P a k) → m n P PX
section
variable {α β J γ : Type} {S : (Addr → Option Nd) → Prop}
theorem Gen.m {m : W α} {c : Nat} {Q : α → Prop} (h : Gen m c Q) : GenM S m c Q := fun n P PX hn hs k => h n P PX hn fun a j q h1 h2 => k a ⟨j, n.μ⟩ q h1 h2 hs
theorem GenM.ret {a : α} {Q : α → Prop} (h : Q a) : GenM S (PL.ret a) 0 Q := (Gen.ret h).m
theorem GenM.bind {m : W α} {f : α → W β} {c d : Nat} {R : α → Prop} {Q : β → Prop} (h : GenM S m c R) (hf : ∀ a, R a → GenM S (f a) d Q) : GenM S (PL.bnd m f) (c + d) Q := fun n P PX hn hs k =>
  h n _ PX (by omega) hs fun a j q h1 h2 hs2 => hf a q j P PX (by omega) hs2 fun b i r h3 h4 hs3 => k b i r (Nat.le_trans h1 h3) (by omega) hs3
theorem GenM.le {m : W α} {c d : Nat} {Q R : α → Prop} (h : GenM S m c Q) (hc : c ≤ d) (hq : ∀ a, Q a → R a) : GenM S m d R := fun n P PX hn hs k => h n P PX (by omega) hs fun a j q h1 h2 h3 => k a j (hq a q) h1 (by omega) h3
theorem GenM.up {m : W α} {c d : Nat} {Q : α → Prop} (h : GenM S m c Q) (hc : c ≤ d) : GenM S m d Q := h.le hc fun _ q => q
theorem GenM.to {m : W α} {c : Nat} {Q R : α → Prop} (h : GenM S m c Q) (hq : ∀ a, Q a → R a) : GenM S m c R := h.le (Nat.le_refl _) hq
theorem GenM.dr {b : Int} {f : Int → W β} {c : Nat} {Q : β → Prop} (h0 : 0 < b) (h1 : b < 1073741824) (k : ∀ r : Int, 0 ≤ r → r < b → GenM S (f r) c Q) : GenM S (PL.bnd (drw b) f) (1 + c) Q :=
  GenM.bind (R := fun r => 0 ≤ r ∧ r < b) (Gen.dr0 (c := 0) h0 h1 fun r a b => ⟨a, b⟩).m fun r ⟨a, b⟩ => k r a b
theorem GenM.cond {b : Bool} {m m' : W α} {c d : Nat} {Q : α → Prop} (h1 : b = true → GenM S m c Q) (h2 : b = false → GenM S m' d Q) : GenM S (if b = true then m else m') (Nat.max c d) Q := by
  cases b with
  | true => rw [if_pos rfl]; exact (h1 rfl).up (Nat.le_max_left _ _)
  | false => rw [if_neg (by decide)]; exact (h2 rfl).up (Nat.le_max_right _ _)
theorem GenM.room {xs : List D} {m : W α} {c : Nat} {Q : α → Prop} (h : xs.length < 1000000) (k : GenM S m c Q) : GenM S (roomL xs m) c Q := by rw [room_pos h]; exact k
theorem GenM.forI {bd : α → J → W (Step J γ)} {k : J → W γ} {c d N : Nat} {I : Nat → J → Prop} {Q : γ → Prop} : ∀ {xs : List α} {i : Nat} {j : J}, xs.length + i ≤ N → (∀ x ∈ xs, ∀ i j, i < N → I i j → GenM S (bd x j) c fun o => ∃ j', o = .go j' ∧ I (i + 1) j') → (∀ i j, i ≤ N → I i j → GenM S (k j) d Q) → I i j → GenM S (forT bd k xs j) (c * xs.length + d) Q
  | [], i, j, hn, hb, hk, h0 => (hk i j (by simpa using hn) h0).up (by omega)
  | x :: xs, i, j, hn, hb, hk, h0 => by
    have hn2 : xs.length + 1 + i ≤ N := hn
    refine (GenM.bind (hb x List.mem_cons_self i j (by omega) h0) (d := c * xs.length + d) fun o ⟨j', e, h1⟩ => ?_).up (by rw [List.length_cons, Nat.mul_add]; omega)
    subst e
    exact GenM.forI (by omega) (fun y hy => hb y (List.mem_cons_of_mem _ hy)) hk h1
end
end PL

/-! The layer: xs += e with lists, xs.insert(i, e). -/
namespace PL
open PySem PySem.Spec L2 PyProof.Rows
section
variable {G : PenK} {X : Cx} {Wx : WX} {γ : Type} {En : Enz γ} {ρ : Env} {rest : List Stmt} {m : W γ}
end
end PL

/-! Plain laws with one list of two numbers that is changed: GenR a m c x y Q tells what m makes of them. -/
namespace PL
open PySem PySem.Spec L2
def GenR {α : Type} (a : Addr) (m : W α) (c : Nat) (x y : Int) (Q : α → Int → Int → Prop) : Prop := ∀ (n : Nt) (P : α → Nt → Prop) (PX : Exc → Nt → Prop), n.n + c ≤ drawMax → n.μ a = some (.lst [.d (.int x), .d (.int y)]) → (∀ v (k : Nt) x' y', Q v x' y' → n.n ≤ k.n → k.n ≤ n.n + c → k.μ a = some (.lst [.d (.int x'), .d (.int y')]) → P v k) → m n P PX
section
variable {α β J γ : Type} {a : Addr} {x y : Int}
theorem Gen.r {m : W α} {c : Nat} {Q : α → Prop} (h : Gen m c Q) : GenR a m c x y (fun v x' y' => Q v ∧ x' = x ∧ y' = y) := fun n P PX hn hs k => h n P PX hn fun v j q h1 h2 => k v ⟨j, n.μ⟩ x y ⟨q, rfl, rfl⟩ h1 h2 hs
theorem GenR.ret {v : α} {Q : α → Int → Int → Prop} (h : Q v x y) : GenR a (PL.ret v) 0 x y Q := fun n P PX _ hs k => k v n x y h (Nat.le_refl _) (Nat.le_refl _) hs
theorem GenR.bind {m : W α} {f : α → W β} {c d : Nat} {R : α → Int → Int → Prop} {Q : β → Int → Int → Prop} (h : GenR a m c x y R) (hf : ∀ v x' y', R v x' y' → GenR a (f v) d x' y' Q) : GenR a (PL.bnd m f) (c + d) x y Q := fun n P PX hn hs k =>
  h n _ PX (by omega) hs fun v j x' y' q h1 h2 hs2 => hf v x' y' q j P PX (by omega) hs2 fun b i x2 y2 r h3 h4 hs3 => k b i x2 y2 r (Nat.le_trans h1 h3) (by omega) hs3
theorem GenR.le {m : W α} {c d : Nat} {Q R : α → Int → Int → Prop} (h : GenR a m c x y Q) (hc : c ≤ d) (hq : ∀ v x' y', Q v x' y' → R v x' y') : GenR a m d x y R := fun n P PX hn hs k => h n P PX (by omega) hs fun v j x' y' q h1 h2 h3 => k v j x' y' (hq v x' y' q) h1 (by omega) h3
theorem GenR.up {m : W α} {c d : Nat} {Q : α → Int → Int → Prop} (h : GenR a m c x y Q) (hc : c ≤ d) : GenR a m d x y Q := h.le hc fun _ _ _ q => q
theorem GenR.dr {b : Int} {f : Int → W β} {c : Nat} {Q : β → Int → Int → Prop} (h0 : 0 < b) (h1 : b < 1073741824) (k : ∀ r : Int, 0 ≤ r → r < b → GenR a (f r) c x y Q) : GenR a (PL.bnd (drw b) f) (1 + c) x y Q :=
  GenR.bind (Gen.r (Q := fun r => 0 ≤ r ∧ r < b) (Gen.dr0 (c := 0) h0 h1 fun r p q => ⟨p, q⟩)) fun r x' y' ⟨⟨p, q⟩, e1, e2⟩ => by
    subst e1 e2
    exact k r p q
theorem GenR.cond {b : Bool} {m m' : W α} {c d : Nat} {Q : α → Int → Int → Prop} (h1 : b = true → GenR a m c x y Q) (h2 : b = false → GenR a m' d x y Q) : GenR a (if b = true then m else m') (Nat.max c d) x y Q := by
  cases b with
  | true => rw [if_pos rfl]; exact (h1 rfl).up (Nat.le_max_left _ _)
  | false => rw [if_neg (by decide)]; exact (h2 rfl).up (Nat.le_max_right _ _)
theorem GenR.room {xs : List D} {m : W α} {c : Nat} {Q : α → Int → Int → Prop} (h : xs.length < 1000000) (k : GenR a m c x y Q) : GenR a (roomL xs m) c x y Q := by rw [room_pos h]; exact k
theorem GenR.forI {bd : α → J → W (Step J γ)} {k : J → W γ} {c d N : Nat} {I : Nat → J → Int → Int → Prop} {Q : γ → Int → Int → Prop} : ∀ {xs : List α} {i : Nat} {j : J} {x y : Int}, xs.length + i ≤ N → (∀ e ∈ xs, ∀ i j x y, i < N → I i j x y → GenR a (bd e j) c x y fun o x' y' => ∃ j', o = .go j' ∧ I (i + 1) j' x' y') → (∀ i j x y, i ≤ N → I i j x y → GenR a (k j) d x y Q) → I i j x y → GenR a (forT bd k xs j) (c * xs.length + d) x y Q
  | [], i, j, x, y, hn, hb, hk, h0 => (hk i j x y (by simpa using hn) h0).up (by omega)
  | e :: xs, i, j, x, y, hn, hb, hk, h0 => by
    have hn2 : xs.length + 1 + i ≤ N := hn
    refine (GenR.bind (hb e List.mem_cons_self i j x y (by omega) h0) (d := c * xs.length + d) fun o x' y' ⟨j', eo, h1⟩ => ?_).up (by rw [List.length_cons, Nat.mul_add]; omega)
    subst eo
    exact GenR.forI (by omega) (fun z hz => hb z (List.mem_cons_of_mem _ hz)) hk h1
theorem GenR.ix0 : GenR a (ixOb a (.int 0)) 0 x y (fun d x' y' => d = .int x ∧ x' = x ∧ y' = y) := fun n P PX _ hs k =>
  ⟨[.d (.int x), .d (.int y)], 0, .int x, by unfold lstM; rw [hs], rfl, atI_nat (j := 0) rfl, k _ n x y ⟨rfl, rfl, rfl⟩ (Nat.le_refl _) (Nat.le_refl _) hs⟩
theorem GenR.ix1 : GenR a (ixOb a (.int 1)) 0 x y (fun d x' y' => d = .int y ∧ x' = x ∧ y' = y) := fun n P PX _ hs k =>
  ⟨[.d (.int x), .d (.int y)], 1, .int y, by unfold lstM; rw [hs], rfl, atI_nat (j := 1) rfl, k _ n x y ⟨rfl, rfl, rfl⟩ (Nat.le_refl _) (Nat.le_refl _) hs⟩
theorem GenR.st0 (z : Int) : GenR a (stOb a (.int 0) (.int z)) 0 x y (fun _ x' y' => x' = z ∧ y' = y) := fun n P PX _ hs k =>
  ⟨[.d (.int x), .d (.int y)], 0, 0, by unfold lstM; rw [hs], rfl, rfl, rfl, k () _ z y ⟨rfl, rfl⟩ (Nat.le_refl _) (Nat.le_refl _) setM_same⟩
theorem GenR.st1 (z : Int) : GenR a (stOb a (.int 1) (.int z)) 0 x y (fun _ x' y' => x' = x ∧ y' = z) := fun n P PX _ hs k =>
  ⟨[.d (.int x), .d (.int y)], 1, 1, by unfold lstM; rw [hs], rfl, rfl, rfl, k () _ x z ⟨rfl, rfl⟩ (Nat.le_refl _) (Nat.le_refl _) setM_same⟩
theorem GenR.mk {f : Addr → W α} {c : Nat} {Q : α → Prop} (h : ∀ a, GenR a (f a) c x y (fun v _ _ => Q v)) : GenM (fun _ => True) (bnd (mkL [.int x, .int y]) f) c Q := fun n P PX hn _ k =>
  ⟨rfl, fun a _ => h a ⟨n.n, setM n.μ a (.lst [.d (.int x), .d (.int y)])⟩ P PX hn setM_same fun v j _ _ q h1 h2 _ => k v j q h1 h2 trivial⟩
end
end PL

/-! Instances of own classes that stay as they were made: made, read, called; methods are defs over data. -/
namespace PL
open PySem PySem.Spec L2 PyProof.Rows
section
variable {G : PenK} {X : Cx} {Wx : WX}
/-! ### how a method is known -/
structure KnM (G : PenK) (X : Cx) (k : Nat) (f : Addr) (fd : FuncData) (ps : List Str) (m : List SV → W D) : Prop where
  F : FnG X.prog X.w X.K X.mg X.base k f fd ps (spM G X.K X.mg ps.length m)
  bd : Binds X.K fd ps []
theorem InsC.same {K : PySem.W.Frag} {c f : Str} {C C' : Addr} (h : InsC K c f C) (h' : InsC K c f C') : C' = C := by
  have := h'.at_.symm.trans h.at_
  cases this
  rfl
end
/-! ### an instance is made -/
/-- what an __init__ promises: self gets its one field -/
def spI (G : PenK) (K : PySem.W.Frag) (mg : Str → Option Value) (ps : Nat) (f : Str) (m : List SV → W D) : Sp := fun vs H Q E =>
  ∃ (x C dx : Addr) (ws : List V) (S : Addr → Prop) (pen : Option (Addr × Addr)) (args : List SV) (n : Nt) (P : D → Nt → Prop) (PX : Exc → Nt → Prop),
    vs = .ref x :: ws ∧ H x = some (.ins C dx []) ∧ Cls K C ∧ NoAttr K C f ∧ n.μ x = none ∧
    args.length = ps ∧ (∀ a, S a → H a ≠ none) ∧ (∀ p, pen = some p → G.inv H p.1 p.2 n.n ∧ ¬ S p.1 ∧ ¬ S p.2) ∧ (∀ q ∈ G.tab, ¬ S q.1 ∧ TabI S H q.1 q.2) ∧ MuOk G K S H pen n ∧ ArgsOk K S H pen args ws ∧ m args n P PX ∧
    (∀ d k v S' H', P d k → After G K S S' pen n H H' k → Rep K S' H' d v → Q .non (upd H' x (.ins C dx [(f, v)]))) ∧ ∀ x k S' H' cls dd, PX x k → After G K S S' pen n H H' k → RepX K mg S' H' x cls dd → E cls dd H'
section
variable {G : PenK} {P : Program} {w : World} {K : PySem.W.Frag} {mg : Str → Option Value} {base : Heap}
/-- a def whose parameters may have defaults -/
structure FunI (K : PySem.W.Frag) (x qual : Str) (st : Stmt) (f : Addr) (fd : FuncData) : Prop where
  ex : ∃ (oc : Value) (od : Option Addr) (dV kV doc pm : Value) (an : Option Addr) (cdv ct : Value) (osl : Array (Option Value)),
    fd = PySem.W.fnOf x qual (defArgs st) (defBody st) (defScope st) dV kV doc pm an cdv ct ∧ K.lookup f = some ⟨oc, od, .func fd, osl⟩ ∧ PySem.W.codeIn K cdv qual = true
end
section
variable {G : PenK} {X : Cx} {Wx : WX}
/-- how a class is known whose instances are made -/
structure KnI (G : PenK) (X : Cx) (k : Nat) (C fI : Addr) (fd : FuncData) (sn : Str) (ps : List Str) (cn f : Str) (m : List SV → W D) : Prop where
  F : FnG X.prog X.w X.K X.mg X.base k fI fd (sn :: ps) (spI G X.K X.mg ps.length f m)
  M : Mk X.K C fI
  ic : InsC X.K cn f C
  bd : Binds X.K fd (sn :: ps) []
end
end PL

/-! What the kernel reads of a class; xs.pop(i) as a statement; xs = xs + ys; for i, (a, b) in enumerate(..). -/
namespace PL
open PySem PySem.Spec L2 PyProof.Rows
section
variable {K : PySem.W.Frag} {C p g fI : Addr} {c f mn : Str}
end
section
variable {G : PenK} {X : Cx} {Wx : WX}
/-- xs + e, xs one's own -/
theorem o_catOwn {x : Str} {px pos : Pos} {b : Expr} {gb : Env → W D} (i : Nat) (hb : E G X Wx b gb) (hN : X.N[i]? = some x := by rfl) (hv : Vis X.env.scope x := by first | exact Or.inl rfl | exact Or.inr (Or.inl rfl) | exact Or.inr (Or.inr rfl)) (hd : (x == ("__debug__" : Str)) = false := by decide) (hcd : (x == ("__classdict__" : Str)) = false := by decide) :
    EO G X Wx (.BinOp (.Name x px) .Add b pos) (fun ρ => bnd (nmO ρ i) fun xs => bnd (gb ρ) fun y => catD (.lst xs) y) :=
  weakE (pe_op op_cat (pe_var hN hv hd hcd) hb) fun σ H Q ⟨c, ρ, n, P, PX, I, q, hg, hx⟩ => by
    obtain ⟨xs, e1, q⟩ := nmO_inv q
    obtain ⟨a, vs, e2, e3, z, r⟩ := I.slots i _ e1
    refine ⟨.ref a, slot_some e2, tE.bnd (f := fun y => catD (.lst xs) y) I q hx fun d k v S' H' p g I' hx' r' => ?_⟩
    obtain ⟨a', vs', e4, e5, z3, r2⟩ := I'.slots i _ e1
    rw [e2] at e4
    cases e4
    cases d with
    | lst ys =>
      obtain ⟨zz, p⟩ := p
      obtain ⟨b, ws, rfl, rb, z2, q2⟩ := r'
      have l1 := r2.len
      have l2 := q2.len
      exact ⟨a, b, vs', ws, rfl, rfl, e5, rb.2, by omega, fun l hl => (hg.grow g).new p I' hl (by rw [List.length_append]; exact zz) (Reps.app r2 q2)⟩
    | _ => exact p.elim
section
variable {γ : Type} {En : Enz γ} {ρ : Env} {rest : List Stmt}
end
end
section
variable {K : PySem.W.Frag}
end
section
variable {G : PenK} {X : Cx} {Wx : WX} {γ : Type} {En : Enz γ} {ρ : Env} {rest : List Stmt}
end
/-! ### constants of the module: tuples of tuples -/
end PL

/-! The source [cells, turn, rest] with tables and changing objects; what a law wants of its source. -/
namespace PL
open PySem PySem.Spec L2
/-- the state of the source behind a change of its list alone -/
theorem After.drawW {S : Addr → Prop} {H H2 : Hp} {a b : Addr} {cs : List Int} {t g : Int} {k : Nat} (hne : a ≠ b) (dom : ∀ x, S x → H x ≠ none) (ha : H a ≠ none) (nSa : ¬ S a) (nSb : ¬ S b) (hb : H b = some (.lst (cs.map V.int))) {T : List (Addr × Str)} {mg : Str → Option Value} (htb : ∀ q ∈ T, ¬ S q.1 ∧ TabI S H q.1 q.2) (haL : ∃ xs, H a = some (.lst xs)) {K : PySem.W.Frag} {n : Nt} {bb : Bool} (hm : MuOk ((penG.wt T mg).wc bb) K S H (some (a, b)) n)
    (sm : ∀ x o, x ≠ a → H x = some o → H2 x = some o) (h2 : H2 a = some (.lst [.ref b, .int t, .int g])) (h3 : cs.length ≤ 63) (ht : 0 ≤ t) (hk : t ≤ k) (hg : 0 ≤ g) : After ((penG.wt T mg).wc bb) K S S (some (a, b)) n H H2 ⟨k, n.μ⟩ := by
  have eqS : ∀ x, S x → H2 x = H x := fun x hx => by
    cases e : H x with
    | none => exact absurd e (dom x hx)
    | some o => exact sm x o (fun z => nSa (z ▸ hx)) e
  refine ⟨⟨fun _ h => h, eqS⟩, fun x hx => by rw [eqS x hx]; exact dom x hx, fun x hx => .inl hx, fun x o e hp _ _ => sm x o (hp (a, b) rfl).1 e, fun q hq => TabI.grow ⟨fun _ h => h, eqS⟩ (tab_eq sm (htb q hq).2 haL) (htb q hq).2, fun p e => ?_, fun x nd e => ?_, fun _ h => h, hm.2⟩
  · cases e
    exact ⟨⟨hne, cs, t, g, h2, sm b _ (Ne.symm hne) hb, h3, ht, hk, hg⟩, nSa, nSb⟩
  · obtain ⟨m1, m2, m3, m4⟩ := hm.1 x nd e
    obtain ⟨o, eo⟩ := Option.ne_none_iff_exists'.mp m1.there
    exact ⟨m1.grow ⟨fun _ h => h, eqS⟩ ((sm x o (m3 (a, b) rfl).1 eo).trans eo.symm), m2, .inl (by rw [e]; exact fun z => nomatch z)⟩
end PL

/-! Texts: split, upper, int(text), str(x). try: v = e. -/
namespace PL
open PySem PySem.Spec PyProof.Rows L2
theorem split_part {a b s : Str} (h : s ∈ Txt.split a b) : s.length ≤ a.length := by
  unfold Txt.split at h
  split at h
  · rw [List.mem_singleton.mp h]; exact Nat.le_refl _
  · split at h
    · rw [List.mem_singleton.mp h]; exact Nat.le_refl _
    · unfold Builtin.Str.partsBetween at h
      obtain ⟨p, _, e⟩ := List.mem_map.mp h
      rw [← e]
      exact strSub_length_le ..
def splitW (x y : D) : W (List D) := match x, y with
  | .str a, .str b => grd ((b.length == 0) = false ∧ a.length + 2 ≤ sizeLine) (ret ((Txt.split a b).map D.str))
  | _, _ => stuck
def upperD (x : D) : W D := match x with
  | .str a => grd (a.length ≤ 5592405) (ret (.str (Txt.upper a)))
  | _ => stuck
def intTW (x : D) : W D := match x with
  | .int i => ret (.int i)
  | .str a => (match PySem.intText? a with
    | some n => grd (a.length ≤ 640) (ret (.int n))
    | none => stuck)
  | _ => stuck
def strOfW (x : D) : W D := match x with
  | .str a => ret (.str a)
  | .int i => grd (i.natAbs.log2 < 1920 ∧ (toString i : Str).length ≤ sizeLine) (ret (.str (toString i)))
  | _ => stuck
section
variable {G : PenK} {X : Cx} {Wx : WX}
/-- x.split(sep) -/
theorem o_split {o e : Expr} {apos pos : Pos} {go ge : Env → W D} (ho : E G X Wx o go) (he : E G X Wx e ge) (hs : starEach [e] X.env = [(false, eval e X.env)] := by rfl) (hbase : attributeBase o "split" X.env (eval o X.env) = eval o X.env := by rfl) (hline : (apos.endLine == pos.line) = true := by rfl) :
    EO G X Wx (.Call (.Attribute o "split" apos) [e] [] pos) (fun ρ => bnd (go ρ) fun x => onStr x (bnd (ge ρ) fun y => splitW x y)) :=
  weakE (pe_split ho he hs hbase hline) fun σ H Q ⟨c, ρ, n, P, PX, I, q, hg, hx⟩ => tE.bnd I q hx fun d k u S' H' p g I' hx' r => by
    cases d with
    | str a =>
      obtain ⟨rfl, hz⟩ := r
      refine ⟨⟨a, rfl⟩, tE.bnd (f := fun y => splitW (.str a) y) I' p hx' fun d2 k2 u2 S2 H2 p2 g2 I2 hx2 r2 => ?_⟩
      cases d2 with
      | str b =>
        obtain ⟨rfl, hz2⟩ := r2
        obtain ⟨⟨h1, h2⟩, p3⟩ := p2
        refine ⟨a, b, rfl, rfl, h1, h2, fun l hl => (hg.grow (g.trans g2)).new p3 I2 hl ?_ (reps_strs fun y hy => Nat.le_trans (split_part hy) hz)⟩
        rw [List.length_map]
        exact Nat.le_trans (PyProof.Rows.split_le a b) h2
      | _ => exact p2.elim
    | _ => exact p.elim
/-- x.upper() -/
theorem e_upper {o : Expr} {apos pos : Pos} {go : Env → W D} (ho : E G X Wx o go) (hbase : attributeBase o "upper" X.env (eval o X.env) = eval o X.env := by rfl) (hline : (apos.endLine == pos.line) = true := by rfl) :
    E G X Wx (.Call (.Attribute o "upper" apos) [] [] pos) (fun ρ => bnd (go ρ) upperD) :=
  weakE (pe_upper ho hbase hline) fun σ H Q ⟨c, ρ, n, P, PX, I, q, hg, hx⟩ => tE.bnd (f := upperD) I q hx fun d k u S' H' p g I' hx' r => by
    cases d with
    | str a =>
      obtain ⟨rfl, hz⟩ := r
      obtain ⟨h1, p⟩ := p
      refine ⟨⟨a, rfl⟩, a, rfl, rfl, h1, (hg.grow g).at (d := .str (Txt.upper a)) p I' ⟨rfl, ?_⟩⟩
      have := PyProof.Rows.len_upper a
      rw [sizeLine_eq]
      omega
    | _ => exact p.elim
/-- int(x), x a text or a number -/
theorem e_intT {p pos : Pos} {e : Expr} {g : Env → W D} (hm : X.mg "int" = none) (h : E G X Wx e g) (hg : Gl X "int" := by rfl) (he : starEach [e] X.env = (false, eval e X.env) :: starEach [] X.env := by rfl) :
    E G X Wx (.Call (.Name "int" p) [e] [] pos) (fun ρ => bnd (g ρ) intTW) :=
  e_t1 hm PyProof.Rows.boot_int (call_int1.or call_int_str) (r := fun x H Q => (∃ i, x = .int i ∧ Q (.int i) H) ∨ ∃ a n, x = .str a ∧ PySem.intText? a = some n ∧ a.length ≤ 640 ∧ Q (.int n) H) (by
    intro c σ ρ H n P PX d v Q I r q hg hx
    cases d with
    | int i => cases r; exact .inl ⟨i, rfl, hg.at (d := .int i) q I rfl⟩
    | str a =>
      obtain ⟨rfl, hz⟩ := r
      unfold intTW at q
      cases hm2 : PySem.intText? a with
      | some m =>
        simp only [hm2] at q
        obtain ⟨h1, q⟩ := q
        exact .inr ⟨a, m, rfl, hm2, h1, hg.at (d := .int m) q I rfl⟩
      | none =>
        simp only [hm2] at q
        exact q.elim
    | _ => exact q.elim) (fun x H Q h => h.elim (fun ⟨i, e, h⟩ => .inl (.inl ⟨i, by rw [e], h⟩)) fun ⟨a, n, e, h⟩ => .inr ⟨a, n, by rw [e], h⟩) h hg (by decide) (by decide) he (by rfl)
/-- str(x) -/
theorem e_strOf {p pos : Pos} {e : Expr} {g : Env → W D} (hm : X.mg "str" = none) (h : E G X Wx e g) (hg : Gl X "str" := by rfl) (he : starEach [e] X.env = (false, eval e X.env) :: starEach [] X.env := by rfl) :
    E G X Wx (.Call (.Name "str" p) [e] [] pos) (fun ρ => bnd (g ρ) strOfW) :=
  e_t1 hm PyProof.Rows.boot_str (SkE.call_str_str.or call_str_int) (r := fun x H Q => (∃ a, x = .str a ∧ Q (.str a) H) ∨ ∃ i, x = .int i ∧ i.natAbs.log2 < 1920 ∧ Q (.str (toString i)) H) (by
    intro c σ ρ H n P PX d v Q I r q hg hx
    cases d with
    | str a =>
      obtain ⟨rfl, hz⟩ := r
      exact .inl ⟨a, rfl, hg.at (d := .str a) q I ⟨rfl, hz⟩⟩
    | int i =>
      cases r
      obtain ⟨⟨h1, h2⟩, q⟩ := q
      exact .inr ⟨i, rfl, h1, hg.at (d := .str (toString i)) q I ⟨rfl, h2⟩⟩
    | _ => exact q.elim) (fun x H Q h => h.elim (fun ⟨i, e, h⟩ => .inl ⟨i, by rw [e], h⟩) fun ⟨a, e, h1, h⟩ => .inr ⟨a, by rw [e], h1, h⟩) h hg (by decide) (by decide) he (by rfl)
end
section
variable {G : PenK} {X : Cx} {Wx : WX} {γ : Type} {En : Enz γ} {ρ : Env} {rest : List Stmt} {m : W γ}
/-- try: v = e / except (X, Y, ..) as n: cn = n -/
theorem sg_tryAsg {e : Expr} {n cn v : Str} {xs : List Nm} {i i2 j kx : Nat} {pv pr tp p1 p2 p3 pos pos' : Pos} {g : Env → W D} {m0 : W D} {r : D → W γ} {hd : Exc → W γ} {emb : Exc → Env} {ok : D → Env} {t : ETab} {cs : List (Str × Value)} (T : ErrI X.K X.mg t cs) (hG : G.mg = X.mg)
    (hs : X.stack = X.env :: X.outer) (hf : X.env.frame = some X.env.locals) (hN : X.N.Nodup) (hi : X.N[i]? = some n) (hln : X.env.kindOf n = some .local) (hi2 : X.N[i2]? = some cn) (hl2 : X.env.kindOf cn = some .local) (hj : X.N[j]? = some v) (hlv : X.env.scope.names.lookup v = some .local) (hz : xs.length ≤ sizeLine) (hc : ∀ p ∈ xs, Names X p.1 p.2.2)
    (hxs : ∀ p ∈ xs.map (fun p => (p.1, p.2.2)), p ∈ cs) (hdn : (n == ("__debug__" : Str)) = false) (hcn : (n == ("__classdict__" : Str)) = false)
    (hE : ∀ (W : WX) (pn : List (Addr × Obj)) (xe : Value → Shared → Prop), Takes (X.tr pn xe) W → PassesOwn (model X.prog X.w) X.A X.env xe → E G (X.tr pn xe) W e g) (hg : g ρ = m0)
    (hρv : ∀ d, ρ.set j (.d d) = ok d) (hv : ∀ d, SG G X Wx rest (ok d) En (r d))
    (hρ : ∀ x, ((ρ.set i .un).set i2 (.exc x)).set i .un = emb x) (hh : ∀ x, SG G X Wx rest (emb x) En (hd x))
    (hsw : swapsWith e (some (.Name v pv)) pr.line X.env = pure false := by rfl) :
    SG G X Wx (.Try [.Assign [.Name v pv] e pr] [.ExceptHandler (some (.Tuple (namesE xs) kx tp)) (some n) [.Assign [.Name cn p1] (.Name n p2) p3] pos'] [] [] pos :: rest) ρ En
      (tryW m0 r fun x => onB (cat t (namesS xs) x) (hd x)) := by
  refine weakSs (pss_cons (ps_try_keep hs hf hN hi hln hi2 hl2 hz hc hdn hcn (tb := fun W Dn σ H => tE G X W g σ H fun v H' => Dn.nx (σ.set j (some v)) H') fun W pn xe tk hp => pss_one (ps_set (X := X.tr pn xe) (i := j) hN hj (.inl hlv) (show PE (X.tr pn xe) e (tE G (X.tr pn xe) W g) from hE W pn xe tk hp) hsw (.inr hlv)))
    (pss_un (t := fun z : { z : Env × W γ // SG G X Wx rest z.1 En z.2 } => tG G X Wx z.1.1 En z.1.2) fun z => z.2)) fun Dn σ H ⟨c, n, P, PX, I, q, hgl, hx⟩ => ?_
  subst hg
  refine ⟨c, ρ, n, fun d j => r d j P PX, fun x j => (onB (cat t (namesS xs) x) (hd x) : W γ) j P PX, I, q, fun d k v S' H' p g I' rv => ?_, fun x k S' H' cls dd p g I' rx => ?_⟩
  · have I3 := I'.set (i := j) rv
    rw [hρv d] at I3
    exact ⟨⟨(ok d, r d), hv d⟩, _, k, P, PX, I3, p, hgl.grow g, hx.grow g⟩
  obtain ⟨hk, hp⟩ := onB_inv (show onB (cat t (namesS xs) x) (hd x) k P PX from p)
  unfold cat at hk
  rw [Bool.and_eq_true] at hk
  obtain ⟨A, hA, ec, _⟩ := id rx
  subst ec
  refine ⟨?_, fun a ha => ?_⟩
  · have := exmAny_of (f := isS t x.1) (xs.map fun p => (p.1, p.2.2)) fun p hp => (T.is x.1 A hA hk.1 p (hxs p hp)).2
    rw [List.map_map, List.map_map] at this
    rw [show xs.map (·.2.2) = xs.map ((·.2) ∘ fun p => (p.1, p.2.2)) from rfl, this, show xs.map ((·.1) ∘ fun p => (p.1, p.2.2)) = namesS xs from rfl, hk.2]
  · obtain ⟨I2, g2⟩ := I'.laid (o := ErrO (.ref A) dd a) ha
    have I3 := ((I2.setS (i := i) (sv := .un) (o := some (.ref a)) rfl True.intro).setS (i := i2) (sv := .exc x) (o := some (.ref a)) rfl ⟨a, .ref A, dd, rfl, .inr rfl, upd_same, by rw [hG]; exact rx.grow g2⟩).setS (i := i) (sv := .un) (o := none) rfl True.intro
    rw [hρ x] at I3
    exact ⟨⟨(emb x, hd x), hh x⟩, _, k, P, PX, I3, hp, hgl.grow (g.trans g2), hx.grow (g.trans g2)⟩
/-- x is None, x an error that was kept -/
theorem t_excN {x : Str} {px pn pos : Pos} {kc} (hG : G.mg = X.mg) (i : Nat) (hN : X.N[i]? = some x := by rfl) (hv : Vis X.env.scope x := by first | exact Or.inl rfl | exact Or.inr (Or.inl rfl) | exact Or.inr (Or.inr rfl)) (hd : (x == ("__debug__" : Str)) = false := by decide)
    (hcd : (x == ("__classdict__" : Str)) = false := by decide) : T G X Wx (.Compare (.Name x px) [.Is] [.Constant .none kc pn] pos) (fun ρ => excAt ρ i fun _ => ret false) :=
  weakT (pt_cmpR op_isN (pe_var hN hv hd hcd) pe_non (by rfl)) fun σ H Q ⟨c, ρ, n, P, PX, I, q, hg, hx⟩ => by
    obtain ⟨e, e1, q⟩ := excAt_inv (show excAt ρ i _ n P PX from q)
    obtain ⟨a, D, dd, es, xa, hm', ha, rx⟩ := I.exc e1
    exact ⟨.ref a, slot_some es, rfl, _, rfl, hg false n c.S H q .refl I⟩
end
end PL

/-! Texts parted; x, *ys = a list; enumerate(list, start=k). -/
namespace PL
open PySem PySem.Spec PyProof.Rows L2
section
variable {X : Cx} {pins : List (Addr × Obj)} {σ : L2.St} {H : Hp} {s : Shared}
end
section
variable {G : PenK} {X : Cx} {Wx : WX}
end
/-! ### x, *ys = a list -/
section
variable {G : PenK} {X : Cx} {Wx : WX} {γ : Type} {En : Enz γ} {ρ : Env} {rest : List Stmt} {m : W γ}
end
/-! ### enumerate(list, start=k) -/
section
variable {G : PenK} {X : Cx} {Wx : WX}
end
/-! ### str(x) of more, text * int -/
/-- what str(x) gives -/
inductive StrX : D → Str → Prop
  | str (a : Str) : a.length ≤ sizeLine → StrX (.str a) a
  | int (i : Int) : i.natAbs.log2 < 1920 → (toString i : Str).length ≤ sizeLine → StrX (.int i) (toString i)
  | non : StrX .non (Str.ofString "None")
  | lst (xs : List D) : (py (.lst xs)).showable = true → (py (.lst xs)).shown.length ≤ sizeLine → (py (.lst xs)).depth ≤ 60 → (py (.lst xs)).hasDict = false → StrX (.lst xs) (py (.lst xs)).shown
theorem StrX.len {d : D} {y : Str} (h : StrX d y) : y.length ≤ sizeLine := by
  cases h with
  | str _ h => exact h
  | int i h1 h2 => exact h2
  | non => decide +kernel
  | lst xs h1 h2 h3 h4 => exact h2
theorem op_mulStr {X : Cx} : OpR X (binaryOp .Mult) (fun x y H Q => ∃ a n, x = .str a ∧ y = .int n ∧ MulOk a n ∧ Q (.str (Txt.mul a n)) H) := by
  intro pins s σ H x y v u Q I rx ry h
  obtain ⟨a, n, rfl, rfl, hm, q⟩ := h
  obtain ⟨t, rfl⟩ := rx
  obtain ⟨t', rfl⟩ := ry
  exact PySem.SB.mul hm fun t2 k => ⟨.str _, H, I.tok k, ⟨_, rfl⟩, q⟩
def repS (a : Str) (n : Int) : W Str := grd (MulOk a n ∧ (Txt.mul a n).length ≤ sizeLine) (ret (Txt.mul a n))
def repSD (x y : D) : W D := match x, y with
  | .str a, .int n => bnd (repS a n) fun z => ret (.str z)
  | _, _ => stuck
theorem e_repS {G : PenK} {X : Cx} {Wx : WX} {a b : Expr} {pos : Pos} {ga gb : Env → W D} (ha : E G X Wx a ga) (hb : E G X Wx b gb) : E G X Wx (.BinOp a .Mult b pos) (fun ρ => bnd (ga ρ) fun x => bnd (gb ρ) fun y => repSD x y) :=
  e_op op_mulStr (by
    intro c σ ρ H n P PX d e v w Q I rd re h hg hx
    cases d with
    | str x =>
      cases e with
      | int k =>
        cases re
        obtain ⟨rfl, _⟩ := rd
        obtain ⟨⟨h1, h2⟩, h⟩ := h
        exact ⟨x, k, rfl, rfl, h1, hg.at (d := .str (Txt.mul x k)) h I ⟨rfl, h2⟩⟩
      | _ => exact False.elim h
    | _ => exact False.elim h) ha hb
/-! ### two defs that call each other -/
def lv2 (B : Nat) : Nat → Nat
  | 0 => B
  | n + 1 => lv2 B n + 2
theorem lv2_le (B : Nat) : ∀ n, B ≤ lv2 B n
  | 0 => Nat.le_refl _
  | n + 1 => Nat.le_trans (lv2_le B n) (Nat.le_add_right _ _)
/-! ### x in a tuple of data of any depth -/
def inDpT (neg : Bool) (x y : D) : W D := match y with
  | .tup ys => grd (okD x = true ∧ okD (.lst ys) = true ∧ okD (.tup ys) = true) (ret (.bl (if neg then !((pys ys).any fun z => PyData.eqv z (py x)) else (pys ys).any fun z => PyData.eqv z (py x))))
  | _ => stuck
def rInDT (K : PySem.W.Frag) (neg : Bool) : R2 := fun x y H Q => ∃ d ds, Dp K H x d ∧ Dp K H y (.tuple ds) ∧ SeqAt.shaped d = true ∧ SeqAt.shaped (.list ds) = true ∧ Q (.bl (if neg then !ds.any fun z => PyData.eqv z d else ds.any fun z => PyData.eqv z d)) H
section
variable {G : PenK} {X : Cx} {Wx : WX}
theorem op_notInDT (hu : X.A.units + 65 < cLine) : OpR X (compareOp .NotIn) (rInDT X.K true) := by
  intro pins s σ H x y v u Q I rx ry h
  obtain ⟨d, ds, hd, he, sd, se, q⟩ := h
  obtain ⟨as, r1⟩ := Dp.reads I d x v hd rx
  obtain ⟨bs, r2⟩ := Dp.reads I (.tuple ds) y u he ry
  exact SeqAt.notIn_tuple_reads r2 r1 (SeqAt.canLay_of_shaped se) (SeqAt.canLay_of_shaped sd) (room_in_shaped sd hu) ⟨.bl _, H, I, rfl, q⟩
theorem v2_inDpT (neg : Bool) : V2 G X Wx (inDpT neg) (rInDT X.K neg) := by
  intro c σ ρ H n P PX d e v w Q I rd re q hg hx
  cases e with
  | tup ys =>
    obtain ⟨⟨h1, h2, h3⟩, q⟩ := q
    have r2 := Rep.dp (.tup ys) w (SeqAt.canLay_of_shaped h3) re
    exact ⟨py d, pys ys, Rep.dp d v (SeqAt.canLay_of_shaped h1) rd, r2, h1, h2, hg.at (d := .bl _) q I rfl⟩
  | _ => exact q.elim
theorem cm_notInDpT (hu : X.A.units + 65 < cLine) : Cm G X Wx .NotIn (inDpT true) := ⟨_, op_notInDT hu, v2_inDpT true⟩
end
end PL

/-! Dicts laid over one another, as plain data. -/
namespace PL
open PySem PySem.Spec L2
end PL

/-! Plain: data without bools and dicts, sorted items, entries dropped, words by letters, stores over known keys. -/
namespace PL
open PySem PySem.Spec L2
/-! ### data that is equal just when it is the same -/
inductive Pl : D → Prop
  | non : Pl .non
  | int (i : Int) : Pl (.int i)
  | str {s : Str} (h : okD (.str s) = true) : Pl (.str s)
  | lst {xs : List D} (h : ∀ x ∈ xs, Pl x) : Pl (.lst xs)
  | tup {xs : List D} (h : ∀ x ∈ xs, Pl x) : Pl (.tup xs)
theorem pys_lay : ∀ {xs : List D}, (∀ x ∈ xs, (py x).canLay0 = true) → PyData.canLayAll0 (pys xs) = true
  | [], _ => by simp [pys, PyData.canLayAll0]
  | x :: xs, h => by
    have := pys_lay (xs := xs) fun y hy => h y (List.mem_cons_of_mem _ hy)
    simp [pys, PyData.canLayAll0, h x List.mem_cons_self, this]
theorem Pl.lay : ∀ {x : D}, Pl x → (py x).canLay0 = true
  | _, .non => by simp [py, PyData.canLay0]
  | _, .int i => by simp [py, PyData.canLay0]
  | _, .str h => okD_lay h
  | _, .lst h => by
    have := pys_lay fun x hx => (h x hx).lay
    simp [py, PyData.canLay0, this]
  | _, .tup h => by
    have := pys_lay fun x hx => (h x hx).lay
    simp [py, PyData.canLay0, this]
theorem eqvs_iff : ∀ {xs ys : List D}, (∀ x ∈ xs, ∀ y ∈ ys, PyData.eqv (py x) (py y) = true ↔ x = y) → (PyData.eqvAll (pys xs) (pys ys) = true ↔ xs = ys)
  | [], [], _ => by simp [pys, PyData.eqvAll]
  | [], _ :: _, _ => by simp [pys, PyData.eqvAll]
  | _ :: _, [], _ => by simp [pys, PyData.eqvAll]
  | x :: xs, y :: ys, h => by
    have ih := eqvs_iff (xs := xs) (ys := ys) fun a ha b hb => h a (List.mem_cons_of_mem _ ha) b (List.mem_cons_of_mem _ hb)
    simp only [pys, PyData.eqvAll, Bool.and_eq_true, ih, h x List.mem_cons_self y List.mem_cons_self, List.cons.injEq]
theorem Pl.eqv_iff : ∀ {x : D}, Pl x → ∀ {y : D}, Pl y → (PyData.eqv (py x) (py y) = true ↔ x = y)
  | _, .non, _, hy => by cases hy <;> simp [py, PyData.eqv]
  | _, .int i, _, hy => by cases hy <;> simp [py, PyData.eqv]
  | _, .str h, _, hy => by cases hy <;> simp [py, PyData.eqv]
  | _, .lst h, _, hy => by
    cases hy with
    | lst h2 =>
      have := eqvs_iff fun x hx y hy => (h x hx).eqv_iff (h2 y hy)
      simp only [py, PyData.eqv, this, D.lst.injEq]
    | _ => simp [py, PyData.eqv]
  | _, .tup h, _, hy => by
    cases hy with
    | tup h2 =>
      have := eqvs_iff fun x hx y hy => (h x hx).eqv_iff (h2 y hy)
      simp only [py, PyData.eqv, this, D.tup.injEq]
    | _ => simp [py, PyData.eqv]
open Classical in
theorem Pl.eqv {x y : D} (hx : Pl x) (hy : Pl y) : PyData.eqv (py x) (py y) = decide (x = y) := by
  have h := hx.eqv_iff hy
  by_cases e : x = y
  · rw [h.mpr e]; exact (decide_eq_true e).symm
  · rw [Bool.eq_false_iff.mpr fun z => e (h.mp z)]; exact (decide_eq_false e).symm
/-- data of which repr and == can speak -/
structure Gd (k : Nat) (x : D) : Prop where
  pl : Pl x
  dp : (py x).depth ≤ k
theorem Gd.ok {k : Nat} {x : D} (h : Gd k x) (hk : k ≤ 63) : okD x = true := by
  unfold okD SeqAt.shaped
  rw [h.pl.lay]
  have := h.dp
  simp
  omega
theorem Gd.up {k j : Nat} {x : D} (h : Gd k x) (hk : k ≤ j) : Gd j x := ⟨h.pl, Nat.le_trans h.dp hk⟩
theorem Gd.tup {k : Nat} {xs : List D} (h : ∀ x ∈ xs, Gd k x) : Gd (k + 1) (.tup xs) :=
  ⟨.tup fun x hx => (h x hx).pl, by simp only [py, PyData.depth]; exact Nat.succ_le_succ (depths_le.mpr fun x hx => (h x hx).dp)⟩
theorem Gd.lst {k : Nat} {xs : List D} (h : ∀ x ∈ xs, Gd k x) : Gd (k + 1) (.lst xs) :=
  ⟨.lst fun x hx => (h x hx).pl, by simp only [py, PyData.depth]; exact Nat.succ_le_succ (depths_le.mpr fun x hx => (h x hx).dp)⟩
theorem Gd.int {k : Nat} {i : Int} : Gd k (.int i) := ⟨.int i, by simp [py, PyData.depth]⟩
theorem Gd.non {k : Nat} : Gd k .non := ⟨.non, by simp [py, PyData.depth]⟩
theorem Gd.str {k : Nat} {s : Str} (h : okD (.str s) = true) : Gd k (.str s) := ⟨.str h, by simp [py, PyData.depth]⟩
open Classical in
theorem eqB_gd {k : Nat} {x y : D} (hx : Gd k x) (hy : Gd k y) (hk : k ≤ 63) : eqB x y = ret (decide (x = y)) := by
  unfold eqB
  rw [grd_pos (.inl ⟨hx.ok hk, hy.ok hk⟩), hx.pl.eqv hy.pl]
open Classical in
theorem neB_gd {k : Nat} {x y : D} (hx : Gd k x) (hy : Gd k y) (hk : k ≤ 63) : neB x y = ret (!decide (x = y)) := by
  unfold neB
  rw [grd_pos (.inl ⟨hx.ok hk, hy.ok hk⟩), hx.pl.eqv hy.pl]
theorem word_ok {s : Str} (h : wordB (.str s) = true) : okD (.str s) = true := by
  have z : Sz 8 0 (.str s) := IsW.ok ⟨s, rfl, h⟩
  cases z.1 with
  | str h => exact h
/-! ### sorted(list(d.items())) -/
/-! ### entries, differences -/
def vg (g : Bool) (y : D) : Bool := (g && isNone y) || numB y
section
variable {v : D → Bool} {a b : List (Key × D)}
end
theorem num_vg (x : D) (h : numB x = true) : vg true x = true := by
  unfold vg
  rw [h, Bool.or_true]
section
variable {f g : List (Key × D)}
end
/-! ### d.pop(k), k in d -/
/-! ### stores over known keys -/
theorem nodup_len {α : Type} [DecidableEq α] : ∀ {l m : List α}, l.Nodup → (∀ x ∈ l, x ∈ m) → l.length ≤ m.length
  | [], _, _, _ => Nat.zero_le _
  | x :: l, m, h, hm => by
    have h2 := List.nodup_cons.mp h
    have hx : x ∈ m := hm x List.mem_cons_self
    have ih := nodup_len (l := l) (m := m.erase x) h2.2 fun y hy => (List.mem_erase_of_ne fun e : y = x => h2.1 (by rw [← e]; exact hy)).mpr (hm y (List.mem_cons_of_mem _ hy))
    rw [List.length_erase_of_mem hx] at ih
    have : 0 < m.length := List.length_pos_of_mem hx
    rw [List.length_cons]
    omega
def StK (K : List Str) (j : List (Key × D)) : Prop := DI numB j ∧ ∀ s ∈ keysS j, s ∈ K
def St (K : List Str) (d : D) : Prop := ∃ j, StK K j ∧ d = .tup (pairsOf j)
theorem StK.len {K : List Str} {j : List (Key × D)} (h : StK K j) : j.length ≤ K.length := by
  have := nodup_len (keysS_nodup h.1) h.2
  unfold keysS at this
  rwa [List.length_map] at this
theorem pairsOf_gd {j : List (Key × D)} (h : DI (vg true) j) : Gd 2 (.tup (pairsOf j)) := by
  refine .tup fun x hx => ?_
  obtain ⟨s, hs, rfl⟩ := List.mem_map.mp hx
  refine .tup fun y hy => ?_
  rcases List.mem_cons.mp hy with rfl | hy
  · exact .str (word_ok (keysS_word h (sortT_mem.mp hs)))
  · rw [List.mem_singleton.mp hy]
    obtain ⟨y, e, hy⟩ := valD_some h (sortT_mem.mp hs)
    have ev : valS j s = y := by unfold valS; rw [e]; rfl
    rw [ev]
    unfold vg at hy
    cases y with
    | non => exact .non
    | int i => exact .int
    | _ => simp [isNone, numB] at hy
theorem St.gd {K : List Str} {d : D} (h : St K d) : Gd 2 d := by
  obtain ⟨j, hj, rfl⟩ := h
  exact pairsOf_gd (hj.1.mono num_vg)
/-! ### loops that gather -/
/-! ### letters -/
def strL (ks : List Nat) : Str := ⟨ks.toArray⟩
theorem strL_toList (ks : List Nat) : (strL ks).cps.toList = ks := rfl
theorem strL_len (ks : List Nat) : (strL ks).length = ks.length := List.size_toArray
theorem cutS_take (a : List Nat) (n : Nat) : cutS (strL a) none (some (n : Int)) = strL (a.take n) := by
  unfold cutS
  rw [HT.sIx_none, HT.sIx_nat, List.drop_zero, Nat.sub_zero, strL_len]
  show strL ((strL a).cps.toList.take _) = _
  rw [strL_toList]
  congr 1
  by_cases h : n ≤ a.length
  · rw [Nat.min_eq_left h]
  · rw [Nat.min_eq_right (by omega), List.take_length, List.take_of_length_le (by omega)]
/-! ### the words of commands -/
theorem lenI_tup (xs : List D) : lenI (.tup xs) = ret (xs.length : Int) := rfl
theorem unp2_tup (a b : D) : unp2 (.tup [a, b]) = ret (a, b) := rfl
end PL

namespace Q82
open PySem PySem.Spec L2 PL LamX
def errT : ETab := [(Str.ofString "InvalidText", [Str.ofString "InvalidText", Str.ofString "RewindError", Str.ofString "ValueError", Str.ofString "Exception", Str.ofString "BaseException", Str.ofString "object"])]
@[irreducible] def d_is_integer (value : D) : W D :=
    andD (ret (.bl (isT .int value))) (ret (.bl (!(isT .bool value))))
def m_is_integer : List SV → W D
  | [.d value] => d_is_integer value
  | _ => stuck
@[irreducible] def d_is_between (value : D) (least : D) (most : D) : W D :=
    andD (cl (d_is_integer value)) (thenB (leD least value) (leD value most))
def m_is_between : List SV → W D
  | [.d value, .d least, .d most] => d_is_between value least most
  | _ => stuck
@[irreducible] def d_is_word (value : D) : W D :=
    bnd (orB (ret (!(isT .str value))) (bnd (lenI value) fun n => bnd (thenB (ret (.bl (decide (1 ≤ n)))) (ret (.bl (decide (n ≤ 8))))) fun k => bnd (blB k) fun k1 => ret (!k1))) fun kk => if kk = true then
    ret (.bl false)
    else
    bnd (codesD value) fun ks => bnd (mapP (fun sign => inStr false (chD sign) (.str (Str.ofString "abcdefghijklmnopqrstuvwxyz"))) ks) fun xs => allD (.lst xs)
def m_is_word : List SV → W D
  | [.d value] => d_is_word value
  | _ => stuck
@[irreducible] def d_is_value (value : D) : W D :=
    cl (d_is_between value (.int (-1000000000000000000)) (.int 1000000000000000000))
def m_is_value : List SV → W D
  | [.d value] => d_is_value value
  | _ => stuck
@[irreducible] def d_is_command (value : D) : W D :=
    bnd (orB (ret (!(isT .tup value))) (orB (bnd (lenI value) fun n => ret (decide (n < 2))) (orB (bnd (ixD value (.int 0)) fun y => ret (!(isT .str y))) (bnd (ixD value (.int 1)) fun y1 => bnd (cl (d_is_word y1)) fun y2 => bnd (tru y2) fun k => ret (!k))))) fun kk => if kk = true then
    ret (.bl false)
    else
    bnd (bnd (ixD value (.int 0)) fun y3 => eqB y3 (.str (Str.ofString "set"))) fun kk => if kk = true then
    andD (bnd (lenI value) fun n1 => ret (.bl (decide (n1 = 3)))) (bnd (ixD value (.int 2)) fun y4 => cl (d_is_value y4))
    else
    andD (bnd (lenI value) fun n2 => ret (.bl (decide (n2 = 2)))) (bnd (ixD value (.int 0)) fun y6 => inFlat false y6 (.tup [(.str (Str.ofString "del")), (.str (Str.ofString "mark")), (.str (Str.ofString "back")), (.str (Str.ofString "keep"))]))
def m_is_command : List SV → W D
  | [.d value] => d_is_command value
  | _ => stuck
@[irreducible] def d_is_try (value : D) : W D :=
    andD (ret (.bl (isT .tup value))) (andD (bnd (lenI value) fun n => ret (.bl (decide (n = 3)))) (andD (bnd (ixD value (.int 0)) fun y => ret (.bl (isT .str y))) (bnd (ixD value (.int 0)) fun y1 => bnd (eqB y1 (.str (Str.ofString "try"))) fun k => ret (.bl k))))
def m_is_try : List SV → W D
  | [.d value] => d_is_try value
  | _ => stuck
@[irreducible] def d_parts_of (recF : List SV → W D) (value : D) (depth : Int) : W D :=
    if (!(isA [.tup, .lst] value)) = true then
    ret .non
    else
    bnd (items value) fun xs => forT (fun item j =>
    bnd (bnd (cl (d_is_command item)) fun y => tru y) fun kk => if kk = true then
    ret (.go ((j.1 + 1), j.2))
    else
    bnd (andB (bnd (cl (d_is_try item)) fun y1 => tru y1) (ret (decide (depth < 3)))) fun kk => if kk = true then
    bnd (bnd (slD item (some 1) none) fun s => bnd (items s) fun xs1 => mapP (fun block => cl (recF [.d block, .d (.int (depth + 1))])) xs1) fun inner =>
    bnd (bnd (inDp false .non (.lst inner)) fun k3 => blB k3) fun kk => if kk = true then
    ret (.out .non)
    else
    bnd (bnd (mapP (fun part => ixD part (.int 0)) inner) fun xs2 => bnd (sumW (.lst xs2)) fun total => ret (j.1 + total)) fun commands =>
    bnd (bnd (mapP (fun part1 => ixD part1 (.int 1)) inner) fun xs3 => bnd (sumW (.lst xs3)) fun total1 => ret (j.2 + (1 + total1))) fun tries =>
    ret (.go (commands, tries))
    else
    ret (.out .non)) (fun j1 =>
    ret (.tup [(.int j1.1), (.int j1.2)])) xs (0, 0)
def mm_parts_of (recF : List SV → W D) : List SV → W D
  | [.d value, .d (.int depth)] => d_parts_of recF value depth
  | _ => stuck
def m_parts_of : Nat → List SV → W D
  | 0 => fun _ => stuck
  | n + 1 => mm_parts_of (m_parts_of n)
@[irreducible] def k_parts_of : List SV → W D := m_parts_of 6
theorem k_parts_of_eq : k_parts_of = m_parts_of 6 := by unfold k_parts_of; rfl
@[irreducible] def d_is_program (value : D) : W D :=
    bnd (cl (k_parts_of [.d value, .d (.int 0)])) fun parts =>
    andD (ret (.bl (!isNone parts))) (andD (bnd (ixD parts (.int 0)) fun y1 => bnd (intI y1) fun i => ret (.bl (decide (i ≤ 20)))) (bnd (ixD parts (.int 1)) fun y2 => bnd (intI y2) fun i1 => ret (.bl (decide (i1 ≤ 4)))))
def m_is_program : List SV → W D
  | [.d value] => d_is_program value
  | _ => stuck
@[irreducible] def d_number_in (text : D) : W D :=
    bnd (bnd (slD text none (some 1)) fun s => bnd (eqB s (.str (Str.ofString "-"))) fun k => if k = true then slD text (some 1) none else ret text) fun digits =>
    bnd (orB (bnd (lenI digits) fun n => bnd (thenB (ret (.bl (decide (1 ≤ n)))) (ret (.bl (decide (n ≤ 60))))) fun k1 => bnd (blB k1) fun k2 => ret (!k2)) (bnd (codesD digits) fun ks => bnd (mapP (fun sign => inStr false (chD sign) (.str (Str.ofString "0123456789"))) ks) fun xs => bnd (allD (.lst xs)) fun y => bnd (tru y) fun k4 => ret (!k4))) fun kk => if kk = true then
    ret .non
    else
    bnd (andB (bnd (ixD digits (.int 0)) fun y1 => eqB y1 (.str (Str.ofString "0"))) (neB text (.str (Str.ofString "0")))) fun kk => if kk = true then
    ret .non
    else
    intTW text
def m_number_in : List SV → W D
  | [.d text] => d_number_in text
  | _ => stuck
@[irreducible] def d_command_in (text : D) : W D :=
    bnd (onStr text (splitW text (.str (Str.ofString " ")))) fun words =>
    bnd (andB (bnd (ixD (.lst words) (.int 0)) fun y => eqB y (.str (Str.ofString "set"))) (ret (decide ((words.length : Int) = 3)))) fun kk => bnd (if kk = true then
    bnd (bnd (ixD (.lst words) (.int 1)) fun y1 => bnd (ixD (.lst words) (.int 2)) fun y2 => bnd (cl (d_number_in y2)) fun y3 => ret [(.str (Str.ofString "set")), y1, y3]) fun command =>
    ret command
    else
    ret words) fun j =>
    bnd (cl (d_is_command (.tup j))) fun y4 => bnd (tru y4) fun k2 => if k2 = true then ret (.tup j) else ret .non
def m_command_in : List SV → W D
  | [.d text] => d_command_in text
  | _ => stuck
@[irreducible] def d_need_text (text : D) : W D :=
    if (!(isT .str text)) = true then
    bnd (ret .non) fun d => rse (Str.ofString "InvalidText", [(Str.ofString "position", d)])
    else
    ret .non
def m_need_text : List SV → W D
  | [.d text] => d_need_text text
  | _ => stuck
@[irreducible] def d_command_end (text : D) (startV : Int) : W D :=
    whileE (fun j => andB (bnd (lenI text) fun n => ret (decide (j < n))) (bnd (ixD text (.int j)) fun y => bnd (inStr true y (.str (Str.ofString ";}"))) fun k => blB k)) (fun j =>
    ret (.go (j + 1))) (fun j1 =>
    bnd (andB (bnd (lenI text) fun n1 => ret (decide (j1 < n1))) (andB (bnd (ixD text (.int j1)) fun y1 => eqB y1 (.str (Str.ofString "}"))) (bnd (ixD text (.int (j1 - 1))) fun y2 => eqB y2 (.str (Str.ofString " "))))) fun kk => if kk = true then
    ret (.int (j1 - 1))
    else
    ret (.int j1)) startV
def m_command_end : List SV → W D
  | [.d text, .d (.int startV)] => d_command_end text startV
  | _ => stuck
@[irreducible] def d_item_at (recF : List SV → W D) (text : D) (startV : Int) (depth : Int) : W D :=
    bnd (bnd (slD text (some startV) (some (startV + ((Str.ofString "try { ").length : Int)))) fun s => neB s (.str (Str.ofString "try { "))) fun kk => if kk = true then
    bnd (cl (d_command_end text startV)) fun endV =>
    bnd (bnd (intI endV) fun i => bnd (slD text (some startV) (some i)) fun s1 => cl (d_command_in s1)) fun command =>
    if (!isNone command) = true then ret (.tup [command, endV]) else ret .non
    else
    bnd (cl (recF [.d text, .d (.int (startV + ((Str.ofString "try { ").length : Int))), .d (.int (depth + 1))])) fun first =>
    bnd (orB (ret (isNone first)) (bnd (ixD first (.int 1)) fun y3 => bnd (intI y3) fun i1 => bnd (ixD first (.int 1)) fun y4 => bnd (intI y4) fun i2 => bnd (slD text (some i1) (some (i2 + ((Str.ofString " } else { ").length : Int)))) fun s2 => neB s2 (.str (Str.ofString " } else { ")))) fun kk => if kk = true then
    ret .non
    else
    bnd (bnd (ixD first (.int 1)) fun y5 => bnd (intI y5) fun i3 => cl (recF [.d text, .d (.int (i3 + ((Str.ofString " } else { ").length : Int))), .d (.int (depth + 1))])) fun second =>
    bnd (orB (ret (isNone second)) (bnd (ixD second (.int 1)) fun y7 => bnd (intI y7) fun i4 => bnd (ixD second (.int 1)) fun y8 => bnd (intI y8) fun i5 => bnd (slD text (some i4) (some (i5 + ((Str.ofString " }").length : Int)))) fun s3 => neB s3 (.str (Str.ofString " }")))) fun kk => if kk = true then
    ret .non
    else
    bnd (ixD first (.int 0)) fun y9 => bnd (ixD second (.int 0)) fun y10 => bnd (ixD second (.int 1)) fun y11 => bnd (intI y11) fun i6 => ret (.tup [(.tup [(.str (Str.ofString "try")), y9, y10]), (.int (i6 + ((Str.ofString " }").length : Int)))])
def mm_item_at (recF : List SV → W D) : List SV → W D
  | [.d text, .d (.int startV), .d (.int depth)] => d_item_at recF text startV depth
  | _ => stuck
@[irreducible] def d_program_at (recF : List SV → W D) (text : D) (startV : Int) (depth : Int) : W D :=
    if (decide (3 < depth)) = true then
    ret .non
    else
    bnd (bnd (slD text (some startV) (some (startV + 1))) fun s => eqB s (.str (Str.ofString "-"))) fun kk => if kk = true then
    ret (.tup [(.tup []), (.int (startV + 1))])
    else
    whileE (fun j => ret true) (fun j =>
    bnd (cl (mm_item_at recF [.d text, .d (.int j.1), .d (.int depth)])) fun found =>
    if (isNone found) = true then
    ret (.out .non)
    else
    bnd (ixD found (.int 0)) fun app => roomL j.2 (
    bnd (ixD found (.int 1)) fun startV1 =>
    bnd (bnd (intI startV1) fun i => bnd (intI startV1) fun i1 => bnd (slD text (some i) (some (i1 + 2))) fun s1 => neB s1 (.str (Str.ofString "; "))) fun kk => if kk = true then
    ret (.out (.tup [(.tup (j.2 ++ [app])), startV1]))
    else
    bnd (addI startV1 (.int 2)) fun startV2 =>
    ret (.go (startV2, (j.2 ++ [app]))))) (fun j1 =>
    ret .non) (startV, [])
def mm_program_at (recF : List SV → W D) : List SV → W D
  | [.d text, .d (.int startV), .d (.int depth)] => d_program_at recF text startV depth
  | _ => stuck
def m_program_at : Nat → List SV → W D
  | 0 => fun _ => stuck
  | n + 1 => mm_program_at (m_program_at n)
@[irreducible] def k_program_at : List SV → W D := m_program_at 6
theorem k_program_at_eq : k_program_at = m_program_at 6 := by unfold k_program_at; rfl
@[irreducible] def d_read_program (text : D) : W D :=
    bnd (cl (d_need_text text)) fun _ =>
    bnd (cl (k_program_at [.d text, .d (.int 0), .d (.int 0)])) fun found =>
    bnd (orB (ret (isNone found)) (orB (bnd (ixD found (.int 1)) fun y2 => bnd (lenI text) fun n => neB y2 (.int n)) (bnd (ixD found (.int 0)) fun y3 => bnd (cl (d_is_program y3)) fun y4 => bnd (tru y4) fun k1 => ret (!k1)))) fun kk => if kk = true then
    bnd (ret .non) fun d => rse (Str.ofString "InvalidText", [(Str.ofString "position", d)])
    else
    ixD found (.int 0)
def m_read_program : List SV → W D
  | [.d text] => d_read_program text
  | _ => stuck
@[irreducible] def d_l_word : W D :=
    bnd (bnd (drw 6) fun r => ret (decide (0 < r))) fun kk => if kk = true then
    bnd (drw 3) fun r1 => ixD (.str (Str.ofString "abc")) (.int r1)
    else
    bnd (bnd (drw 8) fun r2 => ret (1 + r2)) fun many =>
    bnd (rngI many) fun isV => bnd (mapP (fun k => bnd (drw 26) fun r3 => ixD (.str (Str.ofString "abcdefghijklmnopqrstuvwxyz")) (.int r3)) isV) fun xs => joinD (.str (Str.ofString "")) (.lst xs)
def m_l_word : List SV → W D
  | [.pen] => d_l_word
  | _ => stuck
@[irreducible] def d_l_number : W D :=
    bnd (drw 12) fun near =>
    bnd (drw 4) fun r1 => ixD (.lst [(.int (near - 5)), (.int (near - 5)), (.int (1000000000000000000 - near)), (.int (near - 1000000000000000000))]) (.int r1)
def m_l_number : List SV → W D
  | [.pen] => d_l_number
  | _ => stuck
@[irreducible] def d_l_command (known : D) : W D :=
    bnd (d_l_word) fun label =>
    bnd (drw 9) fun way =>
    bnd (andB (neB known (.lst [])) (bnd (drw 4) fun r1 => ret (decide (0 < r1)))) fun kk => bnd (if kk = true then
    bnd (bnd (lenI known) fun n => bnd (drw n) fun r2 => ixD known (.int r2)) fun label1 =>
    ret label1
    else
    ret label) fun j =>
    if (decide (way < 3)) = true then
    bnd (d_l_word) fun y2 => bnd (d_l_number) fun y3 => ret (.tup [(.str (Str.ofString "set")), y2, y3])
    else
    if (decide (way = 3)) = true then
    bnd (d_l_word) fun y4 => ret (.tup [(.str (Str.ofString "del")), y4])
    else
    bnd (ixD (.lst [(.str (Str.ofString "mark")), (.str (Str.ofString "mark")), (.str (Str.ofString "back")), (.str (Str.ofString "back")), (.str (Str.ofString "keep"))]) (.int (way - 4))) fun y5 => ret (.tup [y5, j])
def m_l_command : List SV → W D
  | [.pen, .d known] => d_l_command known
  | _ => stuck
@[irreducible] def d_l_is_word (thing : D) : W D :=
    bnd (orB (ret (!(isT .str thing))) (bnd (lenI thing) fun n => bnd (thenB (ret (.bl (decide (1 ≤ n)))) (ret (.bl (decide (n ≤ 8))))) fun k => bnd (blB k) fun k1 => ret (!k1))) fun kk => if kk = true then
    ret (.bl false)
    else
    bnd (codesD thing) fun ks => bnd (selP (fun sign => bnd (thenB (leD (.str (Str.ofString "a")) (chD sign)) (leD (chD sign) (.str (Str.ofString "z")))) fun k5 => bnd (blB k5) fun k6 => ret (!k6)) (fun sign => ret (chD sign)) ks) fun xs => bnd (eqB (.lst xs) (.lst [])) fun k7 => ret (.bl k7)
def m_l_is_word : List SV → W D
  | [.d thing] => d_l_is_word thing
  | _ => stuck
@[irreducible] def d_l_is_number (thing : D) : W D :=
    andD (ret (.bl (isT .int thing))) (andD (ret (.bl (!(isT .bool thing)))) (bnd (absD thing) fun y => bnd (intI y) fun i => ret (.bl (decide (i ≤ 1000000000000000000)))))
def m_l_is_number : List SV → W D
  | [.d thing] => d_l_is_number thing
  | _ => stuck
@[irreducible] def d_l_is_command (thing : D) : W D :=
    bnd (orB (ret (!(isT .tup thing))) (orB (bnd (lenI thing) fun n => bnd (inFlat true (.int n) (.tup [(.int 2), (.int 3)])) fun k => blB k) (bnd (ixD thing (.int 0)) fun y => ret (!(isT .str y))))) fun kk => if kk = true then
    ret (.bl false)
    else
    bnd (bnd (ixD thing (.int 0)) fun y1 => eqB y1 (.str (Str.ofString "set"))) fun kk => if kk = true then
    andD (bnd (lenI thing) fun n1 => ret (.bl (decide (n1 = 3)))) (andD (bnd (ixD thing (.int 1)) fun y2 => cl (d_l_is_word y2)) (bnd (ixD thing (.int 2)) fun y4 => cl (d_l_is_number y4)))
    else
    andD (bnd (lenI thing) fun n2 => ret (.bl (decide (n2 = 2)))) (andD (bnd (ixD thing (.int 0)) fun y6 => inFlat false y6 (.tup [(.str (Str.ofString "del")), (.str (Str.ofString "mark")), (.str (Str.ofString "back")), (.str (Str.ofString "keep"))])) (bnd (ixD thing (.int 1)) fun y7 => cl (d_l_is_word y7)))
def m_l_is_command : List SV → W D
  | [.d thing] => d_l_is_command thing
  | _ => stuck
@[irreducible] def d_l_shown (row : D) : W D :=
    bnd (lenI row) fun n => if (decide (0 < n)) = true then bnd (items row) fun xs => bnd (mapP (fun one => bnd (items one) fun xs1 => bnd (mapP (fun part => strOfW part) xs1) fun xs2 => joinD (.str (Str.ofString " ")) (.lst xs2)) xs) fun xs3 => joinD (.str (Str.ofString "; ")) (.lst xs3) else ret (.str (Str.ofString "-"))
def m_l_shown : List SV → W D
  | [.d row] => d_l_shown row
  | _ => stuck
@[irreducible] def d_l_number_in (part : D) : W D :=
    bnd (bnd (slD part none (some 1)) fun s => bnd (eqB s (.str (Str.ofString "-"))) fun k => slD part (some (if k then 1 else 0)) none) fun digits =>
    bnd (orB (eqB digits (.str (Str.ofString ""))) (orB (bnd (codesD digits) fun ks => bnd (selP (fun sign => bnd (inStr true (chD sign) (.str (Str.ofString "0123456789"))) fun k2 => bnd (blB k2) fun k3 => ret k3) (fun sign => ret (chD sign)) ks) fun xs => neB (.lst xs) (.lst [])) (bnd (lenI digits) fun n => ret (decide (60 < n))))) fun kk => if kk = true then
    ret .non
    else
    bnd (andB (bnd (ixD digits (.int 0)) fun y => eqB y (.str (Str.ofString "0"))) (neB part (.str (Str.ofString "0")))) fun kk => if kk = true then
    ret .non
    else
    intTW part
def m_l_number_in : List SV → W D
  | [.d part] => d_l_number_in part
  | _ => stuck
@[irreducible] def d_l_command_in (words : D) : W D :=
    bnd (tupD words) fun found =>
    bnd (andB (bnd (lenI words) fun n => ret (decide (n = 3))) (bnd (ixD words (.int 0)) fun y => eqB y (.str (Str.ofString "set")))) fun kk => bnd (if kk = true then
    bnd (bnd (ixD words (.int 1)) fun y1 => bnd (ixD words (.int 2)) fun y2 => bnd (cl (d_l_number_in y2)) fun y3 => ret [(.str (Str.ofString "set")), y1, y3]) fun found1 =>
    ret (.tup found1)
    else
    ret found) fun j =>
    bnd (cl (d_l_is_command j)) fun y4 => bnd (tru y4) fun k2 => if k2 = true then ret j else ret .non
def m_l_command_in : List SV → W D
  | [.d words] => d_l_command_in words
  | _ => stuck
@[irreducible] def d_l_program (recF : List SV → W D) (room : Addr) (depth : Int) : W D :=
    bnd (bnd (ixD (.lst [(.int 4), (.int 5), (.int 8), (.int 5)]) (.int depth)) fun y => bnd (intI y) fun i => bnd (drw i) fun r => rngI r) fun isV => forT (fun turn j =>
    bnd (andB (ret (decide (depth < 3))) (andB (bnd (ixOb room (.int 1)) fun y1 => bnd (intI y1) fun i1 => ret (decide (0 < i1))) (bnd (drw 3) fun r1 => ret (decide (r1 = 0))))) fun kk => if kk = true then
    bnd (bnd (ixOb room (.int 1)) fun y2 => bnd (intI y2) fun i2 => stOb room (.int 1) (.int (i2 - 1))) fun _ =>
    bnd (recF [.pen, .o room, .d (.int (depth + 1))]) fun first =>
    bnd (bnd (recF [.pen, .o room, .d (.int (depth + 1))]) fun y4 => ret [(.str (Str.ofString "try")), first, y4]) fun app => roomL j (
    ret (.go (j ++ [(.tup app)])))
    else
    bnd (bnd (ixOb room (.int 0)) fun y5 => bnd (intI y5) fun i3 => ret (decide (0 < i3))) fun kk => if kk = true then
    bnd (bnd (ixOb room (.int 0)) fun y6 => bnd (intI y6) fun i4 => stOb room (.int 0) (.int (i4 - 1))) fun _ =>
    bnd (d_l_command (.lst [])) fun app1 => roomL j (
    ret (.go (j ++ [app1])))
    else
    ret (.go j)) (fun j1 =>
    ret (.tup j1)) isV []
def mm_l_program (recF : List SV → W D) : List SV → W D
  | [.pen, .o room, .d (.int depth)] => d_l_program recF room depth
  | _ => stuck
def m_l_program : Nat → List SV → W D
  | 0 => fun _ => stuck
  | n + 1 => mm_l_program (m_l_program n)
@[irreducible] def k_l_program : List SV → W D := m_l_program 5
theorem k_l_program_eq : k_l_program = m_l_program 5 := by unfold k_l_program; rfl
@[irreducible] def d_l_bent_text (whole : D) : W D :=
    bnd (bnd (lenI whole) fun n => drw (n + 1)) fun spot =>
    bnd (bnd (drw 13) fun r1 => ixD (.str (Str.ofString " ;-0a:={}\n9zA")) (.int r1)) fun sign =>
    bnd (onStr whole (splitW whole (.str (Str.ofString " ")))) fun parts =>
    bnd (drw (parts.length : Int)) fun place =>
    bnd (bnd (slD whole none (some spot)) fun s => bnd (addD s sign) fun c => bnd (slD whole (some spot) none) fun s1 => bnd (addD c s1) fun c1 => bnd (slD whole none (some spot)) fun s2 => bnd (addD s2 sign) fun c2 => bnd (slD whole (some (spot + 1)) none) fun s3 => bnd (addD c2 s3) fun c3 => bnd (slD whole none (some spot)) fun s4 => bnd (slD whole (some (spot + 1)) none) fun s5 => bnd (addD s4 s5) fun c4 => ret [c1, c3, c4]) fun someV =>
    bnd (bnd (slD whole none (some spot)) fun s6 => bnd (slD whole (some spot) none) fun s7 => bnd (addD whole sign) fun c5 => bnd (addL (cutD parts none (some place)) (cutD parts (some (place + 1)) none)) fun c6 => bnd (joinD (.str (Str.ofString " ")) (.lst c6)) fun j => addL someV [s6, s7, c5, j]) fun someV1 =>
    bnd (bnd (addL (cutD parts none (some (place + 1))) (cutD parts (some place) none)) fun c8 => bnd (joinD (.str (Str.ofString " ")) (.lst c8)) fun j1 => bnd (addD whole (.str (Str.ofString "; "))) fun c9 => bnd (addD c9 whole) fun c10 => bnd (addD whole (.str (Str.ofString "\n"))) fun c11 => bnd (addD c11 whole) fun c12 => addL someV1 [j1, c10, c12]) fun someV2 =>
    bnd (bnd (upperD whole) fun up => bnd (slD whole none (some 2000)) fun s8 => addL someV2 [up, (.lst [s8]), .non, (.int 0), (.str (Str.ofString "")), (.str (Str.ofString "-")), (.str (Str.ofString "- ")), (.str (Str.ofString "try { - } else { - }"))]) fun someV3 =>
    bnd (addL someV3 [(.str (Str.ofString "set a 1000000000000000001"))]) fun c15 => bnd (drw 19) fun r3 => ixD (.lst c15) (.int r3)
def m_l_bent_text : List SV → W D
  | [.pen, .d whole] => d_l_bent_text whole
  | _ => stuck
@[irreducible] def d_l_heard (m : W D) : W D :=
    tryW (m) (fun found => if (isNone .non) = true then
    ret (.lst [found])
    else stuck) fun err => onB (cat errT [Str.ofString "RewindError", Str.ofString "Refused", Str.ofString "Full", Str.ofString "TooLong", Str.ofString "TooLarge"] err) (
    if false = true then stuck else
    bnd (orB (bnd (isW errT (Str.ofString "InvalidText") err) fun z => bnd (tru z) fun k => ret (!k)) (bnd (isW errT (Str.ofString "ValueError") err) fun z1 => bnd (tru z1) fun k1 => ret (!k1))) fun kk => if kk = true then
    ret (.str (Str.ofString "odd"))
    else
    bnd (bnd (isTW errT [Str.ofString "InvalidScript", Str.ofString "InvalidState", Str.ofString "InvalidProgram", Str.ofString "InvalidCommand", Str.ofString "InvalidLine"] err) fun z2 => tru z2) fun kk => if kk = true then
    ret (.str (Str.ofString "odd"))
    else
    bnd (fldW [Str.ofString "InvalidText"] (Str.ofString "position") err) fun position => ret (.tup [(.str (Str.ofString "text")), position]))
@[irreducible] def d_l_program_text (recF : List SV → W D) (row : D) : W D :=
    bnd (items row) fun xs => forT (fun one j =>
    bnd (bnd (ixD one (.int 0)) fun y => eqB y (.str (Str.ofString "try"))) fun kk => if kk = true then
    bnd (bnd (ixD one (.int 1)) fun y1 => bnd (cl (recF [.d y1])) fun y2 => bnd (addD (.str (Str.ofString "{ ")) y2) fun c => bnd (addD c (.str (Str.ofString " }"))) fun c1 => bnd (ixD one (.int 2)) fun y3 => bnd (cl (recF [.d y3])) fun y4 => bnd (addD (.str (Str.ofString "{ ")) y4) fun c2 => bnd (addD c2 (.str (Str.ofString " }"))) fun c3 => ret [c1, c3]) fun blocks =>
    bnd (bnd (joinD (.str (Str.ofString " else ")) (.lst blocks)) fun j1 => addD (.str (Str.ofString "try ")) j1) fun app => roomL j (
    ret (.go (j ++ [app])))
    else
    bnd (cl (d_l_shown (.lst [one]))) fun app1 => roomL j (
    ret (.go (j ++ [app1])))) (fun j2 =>
    bnd (neB (.lst j2) (.lst [])) fun k1 => if k1 = true then joinD (.str (Str.ofString "; ")) (.lst j2) else ret (.str (Str.ofString "-"))) xs []
def mm_l_program_text (recF : List SV → W D) : List SV → W D
  | [.d row] => d_l_program_text recF row
  | _ => stuck
def m_l_program_text : Nat → List SV → W D
  | 0 => fun _ => stuck
  | n + 1 => mm_l_program_text (m_l_program_text n)
@[irreducible] def k_l_program_text : List SV → W D := m_l_program_text 6
theorem k_l_program_text_eq : k_l_program_text = m_l_program_text 6 := by unfold k_l_program_text; rfl
@[irreducible] def d_l_try_in (recF : List SV → W D) (words : D) (atV : Int) (depth : Int) : W D :=
    bnd (bnd (slD words (some (atV + 1)) (some (atV + 2))) fun s => bnd (eqB s (.lst [(.str (Str.ofString "{"))])) fun k => if k = true then cl (recF [.d words, .d (.int (atV + 2)), .d (.int (depth + 1))]) else ret .non) fun first =>
    bnd (orB (ret (isNone first)) (bnd (ixD first (.int 1)) fun y1 => bnd (intI y1) fun i => bnd (ixD first (.int 1)) fun y2 => bnd (intI y2) fun i1 => bnd (slD words (some i) (some (i1 + 3))) fun s1 => neB s1 (.lst [(.str (Str.ofString "}")), (.str (Str.ofString "else")), (.str (Str.ofString "{"))]))) fun kk => if kk = true then
    ret .non
    else
    bnd (bnd (ixD first (.int 1)) fun y3 => bnd (intI y3) fun i2 => cl (recF [.d words, .d (.int (i2 + 3)), .d (.int (depth + 1))])) fun second =>
    if (isNone second) = true then ret .non else bnd (ixD first (.int 0)) fun y5 => bnd (ixD second (.int 0)) fun y6 => bnd (ixD second (.int 1)) fun y7 => ret (.tup [(.tup [(.str (Str.ofString "try")), y5, y6]), y7])
def mm_l_try_in (recF : List SV → W D) : List SV → W D
  | [.d words, .d (.int atV), .d (.int depth)] => d_l_try_in recF words atV depth
  | _ => stuck
@[irreducible] def d_l_block_in (recF : List SV → W D) (words : D) (atV : Int) (depth : Int) : W D :=
    bnd (orB (ret (decide (3 < depth))) (bnd (lenI words) fun n => ret (decide (n ≤ atV)))) fun kk => if kk = true then
    ret .non
    else
    bnd (bnd (ixD words (.int atV)) fun y => eqB y (.str (Str.ofString "-"))) fun kk => if kk = true then
    ret (.tup [(.tup []), (.int (atV + 1))])
    else
    whileE (fun j => ret true) (fun j =>
    bnd (bnd (slD words (some j.1) (some (j.1 + 1))) fun s => eqB s (.lst [(.str (Str.ofString "try"))])) fun kk => bnd (if kk = true then
    bnd (cl (mm_l_try_in recF [.d words, .d (.int j.1), .d (.int depth)])) fun one =>
    bnd (orB (ret (isNone one)) (bnd (ixD one (.int 1)) fun y2 => bnd (intI y2) fun i => bnd (ixD one (.int 1)) fun y3 => bnd (intI y3) fun i1 => bnd (slD words (some i) (some (i1 + 1))) fun s1 => bnd (inDpT true s1 (.tup [(.lst [(.str (Str.ofString "}"))]), (.lst [(.str (Str.ofString "};"))])])) fun k3 => blB k3)) fun kk => if kk = true then
    ret (.out (.out .non))
    else
    bnd (ixD one (.int 0)) fun app => roomL j.2 (
    bnd (bnd (ixD one (.int 1)) fun y5 => bnd (intI y5) fun i2 => ixD words (.int i2)) fun last =>
    bnd (bnd (ixD one (.int 1)) fun y7 => bnd (intI y7) fun i3 => ret (i3 + 1)) fun atV1 =>
    ret (.go (atV1, (j.2 ++ [app]), last)))
    else
    bnd (bnd (slD words (some j.1) (some (j.1 + 1))) fun s2 => bnd (eqB s2 (.lst [(.str (Str.ofString "set"))])) fun k6 => if k6 = true then ret (.int 3) else ret (.int 2)) fun many =>
    bnd (bnd (intI many) fun i4 => slD words (some j.1) (some (j.1 + i4))) fun row =>
    bnd (bnd (neB row (.lst [])) fun k7 => if k7 = true then ixD row (.int (-1)) else ret (.str (Str.ofString ""))) fun last1 =>
    bnd (bnd (slD row none (some (-1))) fun s4 => bnd (lenI last1) fun n1 => bnd (slD last1 (some (-1)) none) fun s5 => bnd (eqB s5 (.str (Str.ofString ";"))) fun k8 => bnd (slD last1 none (some (n1 - (if k8 then 1 else 0)))) fun s6 => bnd (addD s4 (.lst [s6])) fun c => cl (d_l_command_in c)) fun one1 =>
    if (isNone one1) = true then
    ret (.out (.out .non))
    else
    roomL j.2 (
    bnd (bnd (intI many) fun i5 => ret (j.1 + i5)) fun atV2 =>
    ret (.go (atV2, (j.2 ++ [one1]), last1)))) (joinK fun j1 =>
    bnd (bnd (slD j1.2.2 (some (-1)) none) fun s7 => neB s7 (.str (Str.ofString ";"))) fun kk => if kk = true then
    ret (.out (.tup [(.tup j1.2.1), (.int j1.1)]))
    else
    ret (.go (j1.1, j1.2.1)))) (fun j2 =>
    ret .non) (atV, [])
def mm_l_block_in (recF : List SV → W D) : List SV → W D
  | [.d words, .d (.int atV), .d (.int depth)] => d_l_block_in recF words atV depth
  | _ => stuck
def m_l_block_in : Nat → List SV → W D
  | 0 => fun _ => stuck
  | n + 1 => mm_l_block_in (m_l_block_in n)
@[irreducible] def k_l_block_in : List SV → W D := m_l_block_in 6
theorem k_l_block_in_eq : k_l_block_in = m_l_block_in 6 := by unfold k_l_block_in; rfl
@[irreducible] def d_l_size (recF : List SV → W D) (row : D) : W D :=
    bnd (items row) fun xs => forT (fun one j =>
    bnd (bnd (ixD one (.int 0)) fun y => eqB y (.str (Str.ofString "try"))) fun kk => if kk = true then
    bnd (bnd (ixD one (.int 1)) fun y1 => bnd (cl (recF [.d y1])) fun y2 => bnd (ixD one (.int 2)) fun y3 => bnd (cl (recF [.d y3])) fun y4 => ret [y2, y4]) fun sizes =>
    bnd (bnd (ixD (.lst sizes) (.int 0)) fun y5 => bnd (ixD y5 (.int 0)) fun y6 => bnd (intI y6) fun i => bnd (ixD (.lst sizes) (.int 1)) fun y7 => bnd (ixD y7 (.int 0)) fun y8 => bnd (intI y8) fun i1 => ret ((j.1 + i) + i1)) fun many =>
    bnd (bnd (ixD (.lst sizes) (.int 0)) fun y9 => bnd (ixD y9 (.int 1)) fun y10 => bnd (intI y10) fun i2 => bnd (ixD (.lst sizes) (.int 1)) fun y11 => bnd (ixD y11 (.int 1)) fun y12 => bnd (intI y12) fun i3 => ret (((j.2 + 1) + i2) + i3)) fun tries =>
    ret (.go (many, tries))
    else
    ret (.go ((j.1 + 1), j.2))) (fun j1 =>
    ret (.tup [(.int j1.1), (.int j1.2)])) xs (0, 0)
def mm_l_size (recF : List SV → W D) : List SV → W D
  | [.d row] => d_l_size recF row
  | _ => stuck
def m_l_size : Nat → List SV → W D
  | 0 => fun _ => stuck
  | n + 1 => mm_l_size (m_l_size n)
@[irreducible] def k_l_size : List SV → W D := m_l_size 6
theorem k_l_size_eq : k_l_size = m_l_size 6 := by unfold k_l_size; rfl
@[irreducible] def d_l_due (thing : D) : W D :=
    bnd (ret (isT .str thing)) fun kk => bnd (if kk = true then
    bnd (onStr thing (splitW thing (.str (Str.ofString " ")))) fun words =>
    bnd (cl (k_l_block_in [.d (.lst words), .d (.int 0), .d (.int 0)])) fun found =>
    bnd (andB (ret (!isNone found)) (orB (bnd (ixD found (.int 1)) fun y1 => neB y1 (.int (words.length : Int))) (bnd (slD thing (some (-1)) none) fun s => eqB s (.str (Str.ofString ";"))))) fun kk => if kk = true then
    ret .non
    else
    ret found
    else
    ret .non) fun j =>
    if (isNone j) = true then
    ret (.tup [(.str (Str.ofString "text")), .non])
    else
    bnd (bnd (ixD j (.int 0)) fun y2 => bnd (cl (k_l_size [.d y2])) fun y3 => unp2 y3) fun p =>
    bnd (andB (bnd (intI p.1) fun i => ret (decide (i ≤ 20))) (bnd (intI p.2) fun i1 => ret (decide (i1 ≤ 4)))) fun k4 => if k4 = true then bnd (ixD j (.int 0)) fun y4 => ret (.lst [y4]) else ret (.tup [(.str (Str.ofString "text")), .non])
def m_l_due : List SV → W D
  | [.d thing] => d_l_due thing
  | _ => stuck
@[irreducible] def d_law : W D :=
    bnd (rngK 5) fun isV => forT (fun turn j =>
    bnd (bnd (mkL [(.int 20), (.int 4)]) fun room => bnd (k_l_program [.pen, .o room, .d (.int 0)]) fun y => cl (k_l_program_text [.d y])) fun whole =>
    bnd (d_l_bent_text whole) fun bent =>
    bnd (bnd (d_l_bent_text whole) fun y3 => bnd (d_l_bent_text (.str (Str.ofString "try { try { try { mark a } else { - } } else { keep a } } else { del b }"))) fun y4 => ret [whole, bent, y3, y4, (.str (Str.ofString "try { try { try { mark a } else { - } } else { keep a } } else { del b }"))]) fun things =>
    bnd (bnd (addS (Str.ofString "try { ") (Str.ofString "try { try { try { mark a } else { - } } else { keep a } } else { del b }")) fun c => bnd (addS c (Str.ofString " } else { - }")) fun c1 => bnd (addS (Str.ofString "try { try { try { mark a } else { - } } else { keep a } } else { del b }") (Str.ofString "; ")) fun c2 => bnd (addS c2 (Str.ofString "try { try { try { mark a } else { - } } else { keep a } } else { del b }")) fun c3 => bnd (repS (Str.ofString "mark a; ") 20) fun c4 => bnd (addS c4 (Str.ofString "mark b")) fun c5 => catD (.lst things) (.lst [(.str c1), (.str c3), (.str c5)])) fun things1 =>
    bnd (ret (isT .str bent)) fun kk => bnd (if kk = true then
    bnd (d_l_bent_text bent) fun app => roomL things1 (
    ret (things1 ++ [app]))
    else
    ret things1) fun j1 =>
    forT (fun thing j2 =>
    bnd (bnd (cl (d_l_due thing)) fun y6 => reprD y6) fun due =>
    bnd (bnd (d_l_heard (cl (d_read_program thing))) fun told => bnd (reprD told) fun y9 => neB y9 due) fun kk => if kk = true then
    ret (.out (.out (.bl false)))
    else
    bnd (bnd (d_l_heard (cl (d_read_program thing))) fun told1 => bnd (reprD told1) fun y11 => neB y11 due) fun kk => if kk = true then
    ret (.out (.out (.bl false)))
    else
    ret (.go ())) (fun j3 =>
    ret (.go ())) j1 ()) (fun j4 =>
    bnd (bnd (repS (Str.ofString "try { ") 1500) fun c6 => bnd (addS c6 (Str.ofString "mark a")) fun c7 => bnd (repS (Str.ofString " } else { - }") 1500) fun c8 => addS c7 c8) fun deepest =>
    bnd (bnd (d_l_heard (cl (d_read_program (.str deepest)))) fun told2 => neB told2 (.tup [(.str (Str.ofString "text")), .non])) fun kk => if kk = true then
    ret (.bl false)
    else
    bnd (bnd (repD (.lst [(.str (Str.ofString "try { - } else { - }"))]) (.int 4)) fun c10 => bnd (joinD (.str (Str.ofString "; ")) c10) fun j5 => bnd (cl (d_read_program j5)) fun y13 => bnd (repD (.tup [(.tup [(.str (Str.ofString "try")), (.tup []), (.tup [])])]) (.int 4)) fun c11 => neB y13 c11) fun kk => if kk = true then
    ret (.bl false)
    else
    bnd (bnd (repS (Str.ofString "mark a; ") 19) fun c12 => bnd (addS c12 (Str.ofString "mark b")) fun c13 => bnd (cl (d_read_program (.str c13))) fun y14 => bnd (repD (.tup [(.tup [(.str (Str.ofString "mark")), (.str (Str.ofString "a"))])]) (.int 19)) fun c14 => bnd (addD c14 (.tup [(.tup [(.str (Str.ofString "mark")), (.str (Str.ofString "b"))])])) fun c15 => neB y14 c15) fun kk => if kk = true then
    ret (.bl false)
    else
    bnd (cl (d_read_program (.str (Str.ofString "try { keep a } else { - }; set x 1")))) fun y15 => bnd (eqB y15 (.tup [(.tup [(.str (Str.ofString "try")), (.tup [(.tup [(.str (Str.ofString "keep")), (.str (Str.ofString "a"))])]), (.tup [])]), (.tup [(.str (Str.ofString "set")), (.str (Str.ofString "x")), (.int 1)])])) fun k5 => ret (.bl k5)) isV ()
end Q82

namespace Q82
open PySem PySem.Spec L2 PL LamX
def topS (i : Nat) : Stmt := PySem.Challenge.pw_rewindplan_k82_programs_read.main.body.getD i (.Pass ⟨0, 0, 0, 0⟩)
section
variable {P : Program} {w : World} {K : PySem.W.Frag} {mg : Str → Option Value} {base : Heap}
abbrev sDraw : Stmt := topS 52
theorem sc_draw : FnScope ["_law_feed_here", "_law_bound", "_law_digit", "_law_turn", "_law_cell", "_law_great", "_law_mixed"] ["_law_feed_here", "_law_bound"] (defScope sDraw) := ⟨rfl, rfl, rfl, by decide +kernel, rfl, by decide +kernel, by decide +kernel⟩
set_option maxHeartbeats 0 in
theorem ok_draw {k : Nat} {f : Addr} {fd : FuncData} {T : List (Addr × Str)} {mgl : Str → Option Value} {bb : Bool} (F : Fun K "_law_take" "_law_take" sDraw f fd) (ml : mg "len" = none) (mb : mg "abs" = none) (mi : mg "int" = none) :
    FnG P w K mg base (k + 1) f fd ["_law_feed_here", "_law_bound"] (spM ((penG.wt T mgl).wc bb) K mg 2 drawM) := by
  refine FnG.of_body F sc_draw (fun vs H Q E ⟨S, pen, args, n, P, PX, hl, _, _, _, _, r, _⟩ => r.len.trans hl) fun cdv A outer s H vs Q E hg hr ⟨S, pen, args, n, Pd, PX, hl, dom, hp, htb, hmu, r, q, hq, hx⟩ => ?_
  obtain ⟨b, rfl, hn, hb0, hb1, q⟩ := drawM_inv q
  obtain ⟨v1, ws1, rfl, ⟨p, rfl, rfl⟩, v2, ws2, rfl, e4, e5⟩ := r
  obtain rfl : ws2 = [] := e5
  obtain rfl : v2 = V.int b := e4
  obtain ⟨⟨hne, cs, t, g, ha, hb, hcs, ht, htn, hg0⟩, nS1, nS2⟩ := hp p rfl
  obtain ⟨a, ca⟩ := p
  have nd := sc_draw.nd
  have t0 : (0 : Int) ≤ t * t := Int.mul_nonneg ht ht
  have t1 : t * t ≤ 4000000 * 4000000 := sq_le ht (by unfold drawMax at hn; omega)
  have t2 : t < 4000000 := by unfold drawMax at hn; omega
  -- the end, from any cell
  obtain ⟨u2, U2, hU2⟩ : ∃ u, PSs (cxOf (L2.CX P w) P w K mg base ["_law_feed_here", "_law_bound", "_law_digit", "_law_turn", "_law_cell", "_law_great", "_law_mixed"] "_law_take" (defScope sDraw) f cdv A outer s H E) ((defBody sDraw).drop 6) u ∧
      ∀ (z : Int) (H2 : Hp), H2 a = some (.lst [.ref ca, .int (t + 1), .int g]) → (∀ x o, x ≠ a → H x = some o → H2 x = some o) → u { nx := fun _ H' => Q .non H', rt := Q } [some (.ref a), some (.int b), none, some (.int t), some (.int z), none, none] H2 := by
    refine ⟨_, pss_cons (ps_set (i := 6) nd rfl (.inl rfl) (pe_op op_mod (pe_op op_pow (pe_op op_add (pe_op op_add (pe_op op_add (pe_op op_mod (pv 4) pe_int) (pe_op op_mul (pe_op op_mul pe_int (pv 3)) (pv 3))) (pe_op op_mul pe_int (pv 3))) pe_int) pe_int) pe_int))
    (pss_cons (ps_set (i := 6) nd rfl (.inl rfl) (pe_op op_mod (pe_op op_pow (pe_op op_add (pe_op op_add (pe_op op_mul (pv 6) (pe_op op_add (pe_op op_mul pe_int (pv 3)) pe_int)) (pe_op op_mul pe_int (pv 3))) pe_int) pe_int) pe_int))
    (pss_one (ps_ret (pe_op op_mod (pe_op op_fdiv (pv 6) pe_int) (pv 1))))), fun z H2 h2a h2 => ?_⟩
    have m0 : ∀ y M : Int, 0 < M → 0 ≤ y % M ∧ y % M < M := fun y M h => ⟨Int.emod_nonneg _ (by omega), Int.emod_lt_of_pos _ h⟩
    refine ⟨_, rfl, _, _, rfl, rfl, (by show (0 : Int) < _; decide), _, rfl, _, _, rfl, rfl, .inr ⟨by omega, by omega⟩, _, rfl, _, _, rfl, rfl, .inr ⟨by omega, by omega⟩, _, _, rfl, rfl, ?_⟩
    refine ⟨_, rfl, _, _, rfl, rfl, .inr ⟨by omega, by omega⟩, _, _, rfl, rfl, _, _, rfl, rfl, ?_⟩
    rw [Int.mul_assoc]
    have q1 := m0 z 2147483563 (by decide)
    refine ⟨_, _, rfl, rfl, ⟨by decide, by decide, by omega⟩, _, _, rfl, rfl, (by show (0 : Int) < _; decide), ?_⟩
    have q2 : 0 ≤ ((z % 2147483563 + 40093 * (t * t) + 30089 * t + 13) ^ (5 : Int).toNat % 2147483647) ∧ ((z % 2147483563 + 40093 * (t * t) + 30089 * t + 13) ^ (5 : Int).toNat % 2147483647) < 2147483647 := m0 _ _ (by decide)
    refine ⟨_, rfl, _, rfl, _, _, rfl, rfl, .inr ⟨by omega, by omega⟩, _, _, rfl, rfl, _, _, rfl, rfl, .inl ⟨by omega, by omega⟩, ?_⟩
    have q3 : 0 ≤ ((z % 2147483563 + 40093 * (t * t) + 30089 * t + 13) ^ (5 : Int).toNat % 2147483647) * (2 * t + 29) ∧ ((z % 2147483563 + 40093 * (t * t) + 30089 * t + 13) ^ (5 : Int).toNat % 2147483647) * (2 * t + 29) ≤ 2147483647 * 8000100 := ⟨Int.mul_nonneg q2.1 (by omega), Int.mul_le_mul (by omega) (by omega) (by omega) (by omega)⟩
    refine ⟨_, rfl, _, _, rfl, rfl, .inr ⟨by omega, by omega⟩, _, _, rfl, rfl, _, _, rfl, rfl, ⟨_, _, rfl, rfl, ⟨by decide, by decide, by omega⟩, _, _, rfl, rfl, (by show (0 : Int) < _; decide), ?_⟩⟩
    refine ⟨_, rfl, _, _, rfl, rfl, ⟨by decide, by decide⟩, _, rfl, _, _, rfl, rfl, hb0, ?_⟩
    exact hq (.int _) ⟨n.n + 1, n.μ⟩ _ S H2 (q _ (n.n + 1) (Int.emod_nonneg _ (by omega)) (Int.emod_lt_of_pos _ hb0) (by omega) (Nat.le_refl _)) (After.drawW hne dom (by rw [ha]; exact fun z => nomatch z) nS1 nS2 hb htb ⟨_, ha⟩ hmu h2 h2a hcs (by omega) (by omega) hg0) rfl
  -- the rest, from any cell
  obtain ⟨u, U, hU⟩ : ∃ u, PSs (cxOf (L2.CX P w) P w K mg base ["_law_feed_here", "_law_bound", "_law_digit", "_law_turn", "_law_cell", "_law_great", "_law_mixed"] "_law_take" (defScope sDraw) f cdv A outer s H E) ((defBody sDraw).drop 5) u ∧
      ∀ (z : Int) (H2 : Hp), H2 a = some (.lst [.ref ca, .int (t + 1), .int g]) → (∀ x o, x ≠ a → H x = some o → H2 x = some o) → u { nx := fun _ H' => Q .non H', rt := Q } [some (.ref a), some (.int b), none, some (.int t), some (.int z), none, none] H2 := by
    refine ⟨_, pss_cons (ps_if (PW.pt (pw_and (pt_cmpR op_lt (pv 3) (pe_callB call_len_seq (by rfl) ml PySem.boot_len (pa_cons (pe_ix ix_list (pv 0) pe_int (fun _ _ => rfl)) pa_nil)) (nomark _))
        (pw_and1 (pt_cmpR op_ge (pe_callB call_abs (by rfl) mb PyProof.Rows.boot_abs (pa_cons (pv 4) pa_nil)) (pe_op op_pow pe_int pe_int) (nomark _)))))
      (pss_cons (ps_set (i := 5) nd rfl (.inl rfl) (pe_op op_add (pe_op op_mul pe_int (pe_op op_sub (pe_callB call_abs (by rfl) mb PyProof.Rows.boot_abs (pa_cons (pv 4) pa_nil)) (pe_op op_pow pe_int pe_int))) (pe_callTy call_int1 (by rfl) mi PyProof.Rows.boot_int (pa_cons (pe_cmpR op_lt (pv 4) pe_int (nomark _)) pa_nil))))
      (pss_cons (ps_asg (pe_op op_fdiv (pv 5) (pv 1)) (pg_sub (pv 0) pe_int set_list))
      (pss_one (ps_ret (pe_op op_mod (pv 5) (pv 1)))))) pss_nil) U2, fun z H2 h2a h2 => ?_⟩
    have h2b : SqL K H2 ca (cs.map V.int) := SqL.of (h2 ca _ (Ne.symm hne) hb)
    refine ⟨_, rfl, rd_ix 0 rfl h2a rfl ⟨ca, _, rfl, .inl h2b, _, _, rfl, rfl, _, rfl, ite2 (fun _ => ?_) (fun _ => iteF (hU2 z H2 h2a h2))⟩⟩
    refine ⟨_, rfl, z, rfl, _, _, rfl, rfl, ⟨by decide, by decide, by decide⟩, _, _, rfl, rfl, _, rfl, ite2 (fun hc => ?_) (fun _ => hU2 z H2 h2a h2)⟩
    have hc' := of_decide_eq_true hc
    -- a great cell
    refine ⟨_, rfl, z, rfl, _, _, rfl, rfl, ⟨by decide, by decide, by decide⟩, _, _, rfl, rfl, _, _, rfl, rfl, .inl ⟨by decide, by decide⟩, ?_⟩
    refine ⟨_, rfl, _, _, rfl, rfl, .inr ⟨_, rfl, _, _, rfl, rfl, ?_⟩⟩
    have hgg : 0 ≤ 2 * ((if z < 0 then -z else z) - 10 ^ (18 : Int).toNat) + (if decide (z < 0) = true then 1 else 0) := by
      have : (0 : Int) ≤ if decide (z < 0) = true then 1 else 0 := by split <;> omega
      omega
    refine ⟨_, rfl, _, rfl, _, _, rfl, rfl, ⟨hb0, hb1⟩, wr_ix 2 rfl h2a (Nat.lt_succ_self _) ⟨_, rfl, _, rfl, _, _, rfl, rfl, hb0, ?_⟩⟩
    exact hq (.int _) ⟨n.n + 1, n.μ⟩ _ S _ (q _ (n.n + 1) (Int.emod_nonneg _ (by omega)) (Int.emod_lt_of_pos _ hb0) (by omega) (Nat.le_refl _)) (After.drawW hne dom (by rw [ha]; exact fun z => nomatch z) nS1 nS2 hb htb ⟨_, ha⟩ hmu (fun x o hx e => by rw [upd_ne hx]; exact h2 x o hx e) upd_same hcs (by omega) (by omega) (Int.ediv_nonneg hgg (by omega))) rfl
  refine ⟨_, pss_cons (ps_if (pt_cmpR op_gt (pe_ix ix_list (pv 0) pe_int (fun _ _ => rfl)) pe_int (nomark _))
      (pss_cons (ps_set (i := 2) nd rfl (.inl rfl) (pe_op op_mod (pe_ix ix_list (pv 0) pe_int (fun _ _ => rfl)) (pv 1)))
      (pss_cons (ps_asg (pe_op op_fdiv (pe_ix ix_list (pv 0) pe_int (fun _ _ => rfl)) (pv 1)) (pg_sub (pv 0) pe_int set_list))
      (pss_one (ps_ret (pv 2))))) pss_nil)
    (pss_cons (ps_set (i := 3) nd rfl (.inl rfl) (pe_ix ix_list (pv 0) pe_int (fun _ _ => rfl)))
    (pss_cons (ps_asg (pe_op op_add (pv 3) pe_int) (pg_sub (pv 0) pe_int set_list))
    (pss_cons (ps_set (i := 4) nd rfl (.inl rfl) (pe_op op_add (pe_op op_mul pe_int (pv 3)) pe_int))
    (pss_cons (ps_if (pt_cmpR (op_neD (u64 hr)) (pe_ix ix_list (pv 0) pe_int (fun _ _ => rfl)) (pe_lst pa_nil) (nomark _))
      (pss_one (ps_set (i := 4) nd rfl (.inl rfl) (pe_ix ix_list (pe_ix ix_list (pv 0) pe_int (fun _ _ => rfl)) (pe_op op_mod (pv 3) (pe_callB call_len_seq (by rfl) ml PySem.boot_len (pa_cons (pe_ix ix_list (pv 0) pe_int (fun _ _ => rfl)) pa_nil))) (fun _ _ => rfl)))) pss_nil) U)))), ?_⟩
  refine rd_ix 2 rfl ha rfl ⟨_, _, rfl, rfl, _, rfl, ite2 (fun hc => ?_) (fun hc => ?_)⟩
  · -- a digit of the rest
    refine rd_ix 2 rfl ha rfl ⟨_, rfl, _, _, rfl, rfl, hb0, rd_ix 2 rfl ha rfl ⟨_, rfl, _, _, rfl, rfl, ⟨hb0, hb1⟩, wr_ix 2 rfl ha (Nat.lt_succ_self _) ⟨_, rfl, ?_⟩⟩⟩
    exact hq (.int (g % b)) ⟨n.n, n.μ⟩ _ S _ (q _ n.n (Int.emod_nonneg _ (by omega)) (Int.emod_lt_of_pos _ hb0) (Nat.le_refl _) (by omega)) (After.drawW hne dom (by rw [ha]; exact fun z => nomatch z) nS1 nS2 hb htb ⟨_, ha⟩ hmu (fun x o hx e => by rw [upd_ne hx]; exact e) upd_same hcs ht htn (Int.ediv_nonneg hg0 (by omega))) rfl
  · refine rd_ix 1 rfl ha rfl ⟨_, rfl, _, _, rfl, rfl, wr_ix 1 rfl ha (by show 1 < 3; omega) ?_⟩
    refine ⟨_, rfl, _, _, rfl, rfl, .inr ⟨by omega, by omega⟩, _, _, rfl, rfl, ?_⟩
    have ha1 : upd H a (.lst [.ref ca, .int (t + 1), .int g]) a = some (.lst [.ref ca, .int (t + 1), .int g]) := upd_same
    have h1 : ∀ x o, x ≠ a → H x = some o → upd H a (.lst [.ref ca, .int (t + 1), .int g]) x = some o := fun x o hx e => by rw [upd_ne hx]; exact e
    refine rd_ix 0 rfl ha1 rfl ⟨Nat.zero_le _, fun p hp => ?_⟩
    have ap : a ≠ p := ne_of_none ha1 hp
    have ha2 : upd (upd H a (.lst [.ref ca, .int (t + 1), .int g])) p (.lst []) a = some (.lst [.ref ca, .int (t + 1), .int g]) := by rw [upd_ne ap]; exact ha1
    have h2 : ∀ x o, x ≠ a → H x = some o → upd (upd H a (.lst [.ref ca, .int (t + 1), .int g])) p (.lst []) x = some o := fun x o hx e => by
      have e1 := h1 x o hx e
      rw [upd_ne (ne_of_none e1 hp)]
      exact e1
    have hb2 := h2 ca _ (Ne.symm hne) hb
    refine ⟨.list (cs.map PyData.int), .list [], .lst (SqL.of hb2) (dp_ints cs), .lst (SqL.of upd_same) .nil, shaped_ints cs, by decide +kernel, _, rfl, ite2 (fun he => ?_) (fun he => hU _ _ ha2 h2)⟩
    rw [eqv_nil] at he
    have hpos : 0 < cs.length := by
      cases cs with
      | nil => simp at he
      | cons _ _ => exact Nat.zero_lt_succ _
    have hm0 := Int.emod_nonneg t (show (cs.length : Int) ≠ 0 by omega)
    have hm1 := Int.emod_lt_of_pos t (show (0 : Int) < cs.length by omega)
    obtain ⟨m, hm⟩ : ∃ m : Nat, t % (cs.length : Int) = m := ⟨(t % (cs.length : Int)).toNat, by omega⟩
    have hml : m < cs.length := by omega
    refine rd_ix 0 rfl ha2 rfl ⟨_, rfl, rd_ix 0 rfl ha2 rfl ⟨ca, _, rfl, .inl (SqL.of hb2), _, _, rfl, rfl, by rw [List.length_map]; omega, ca, _, _, .int cs[m], rfl, rfl, SqL.of hb2, ?_, hU _ _ ha2 h2⟩⟩
    rw [List.length_map, hm]
    exact atI_nat (by rw [List.getElem?_map, List.getElem?_eq_getElem hml]; rfl)
set_option maxHeartbeats 0 in
theorem ok_l_feed {f : Addr} {fd : FuncData} {T : List (Addr × Str)} {mgl : Str → Option Value} {bb : Bool} (F : Fun K "_law_feed" "_law_feed" (topS 51) f fd) (ml : mg "list" = none) : FnG P w K mg base 1 f fd ["_law_script"] (spFeedK ((penG.wt T mgl).wc bb) K) := by
  have sc : FnScope ["_law_script"] ["_law_script"] (defScope (topS 51)) := ⟨rfl, rfl, rfl, by decide +kernel, rfl, by decide +kernel, by decide +kernel⟩
  refine FnG.of_body F sc (fun vs H Q E ⟨a, ns, e, _⟩ => by rw [e]; rfl) fun cdv A outer s H vs Q E hg hr ⟨a, ns, e, hS, hl, q⟩ => ?_
  subst e
  refine ⟨_, pss_one (ps_ret (pe_lst (pa_cons (pe_callTy call_list_of (by rfl) ml PyProof.Rows.boot_list (pa_cons (pe_slice sl_list (pv 0) po_none (po_some pe_int)) pa_nil)) (pa_cons pe_int (pa_cons pe_int pa_nil))))), ?_⟩
  refine ⟨.ref a, rfl, ?_⟩
  have hc : cutV (ns.map V.int) none (some 63) = ns.map V.int := by
    unfold cutV
    rw [HT.sIx_none, show (63 : Int) = ((63 : Nat) : Int) from rfl, HT.sIx_nat, List.length_map, Nat.min_eq_right hl, Nat.sub_zero, List.drop_zero, List.take_of_length_le (by rw [List.length_map]; exact Nat.le_refl _)]
  refine ⟨63, rfl, a, _, rfl, hS, fun b hb => ⟨b, _, rfl, .inl (SqL.of upd_same), fun l hl2 => ⟨(by show 3 ≤ sizeLine; rw [sizeLine_eq]; decide), fun p hp => ?_⟩⟩⟩
  rw [hc] at hl2 hp ⊢
  have lp : l ≠ p := fun z => by rw [z, upd_same] at hp; cases hp
  have sm : ∀ x o, H x = some o → upd (upd (upd H b (.lst (ns.map V.int))) l (.lst (ns.map V.int))) p (.lst [.ref l, .int 0, .int 0]) x = some o := fun x o e => by
    have e1 : upd H b (.lst (ns.map V.int)) x = some o := by rw [upd_ne (ne_of_none e hb)]; exact e
    have e2 : upd (upd H b (.lst (ns.map V.int))) l (.lst (ns.map V.int)) x = some o := by rw [upd_ne (ne_of_none e1 hl2)]; exact e1
    rw [upd_ne (ne_of_none e2 hp)]
    exact e2
  exact q _ p l ⟨Ne.symm lp, ns, 0, 0, upd_same, (by rw [upd_ne lp]; exact upd_same), hl, Int.le_refl _, Int.le_refl _, Int.le_refl _⟩ fun P ps e => sm P _ e
end
abbrev s_is_integer : Stmt := topS 16
abbrev s_is_between : Stmt := topS 17
abbrev s_is_word : Stmt := topS 18
abbrev s_is_value : Stmt := topS 19
abbrev s_is_command : Stmt := topS 26
abbrev s_is_try : Stmt := topS 32
abbrev s_parts_of : Stmt := topS 33
abbrev s_is_program : Stmt := topS 34
abbrev s_number_in : Stmt := topS 43
abbrev s_command_in : Stmt := topS 44
abbrev s_need_text : Stmt := topS 45
abbrev s_command_end : Stmt := topS 46
abbrev s_item_at : Stmt := topS 47
abbrev s_program_at : Stmt := topS 48
abbrev s_read_program : Stmt := topS 49
abbrev s_l_feed : Stmt := topS 51
abbrev s_l_take : Stmt := topS 52
abbrev s_l_word : Stmt := topS 53
abbrev s_l_number : Stmt := topS 54
abbrev s_l_command : Stmt := topS 55
abbrev s_l_is_word : Stmt := topS 56
abbrev s_l_is_number : Stmt := topS 57
abbrev s_l_is_command : Stmt := topS 58
abbrev s_l_shown : Stmt := topS 59
abbrev s_l_number_in : Stmt := topS 62
abbrev s_l_command_in : Stmt := topS 63
abbrev s_l_program : Stmt := topS 64
abbrev s_l_bent_text : Stmt := topS 65
abbrev s_l_heard : Stmt := topS 66
abbrev s_l_program_text : Stmt := topS 67
abbrev s_l_try_in : Stmt := topS 68
abbrev s_l_block_in : Stmt := topS 69
abbrev s_l_size : Stmt := topS 70
abbrev s_l_due : Stmt := topS 71
abbrev s_law : Stmt := topS 72
abbrev sc_is_integer_N : List Str := ["value"]
theorem sc_is_integer : FnScope sc_is_integer_N ["value"] (defScope s_is_integer) := ⟨rfl, rfl, rfl, by decide +kernel, rfl, by decide +kernel, by decide +kernel⟩
abbrev sc_is_between_N : List Str := ["value", "least", "most"]
theorem sc_is_between : FnScope sc_is_between_N ["value", "least", "most"] (defScope s_is_between) := ⟨rfl, rfl, rfl, by decide +kernel, rfl, by decide +kernel, by decide +kernel⟩
abbrev sc_is_word_N : List Str := ["value", "sign"]
theorem sc_is_word : FnScope sc_is_word_N ["value"] (defScope s_is_word) := ⟨rfl, rfl, rfl, by decide +kernel, rfl, by decide +kernel, by decide +kernel⟩
abbrev sc_is_value_N : List Str := ["value"]
theorem sc_is_value : FnScope sc_is_value_N ["value"] (defScope s_is_value) := ⟨rfl, rfl, rfl, by decide +kernel, rfl, by decide +kernel, by decide +kernel⟩
abbrev sc_is_command_N : List Str := ["value"]
theorem sc_is_command : FnScope sc_is_command_N ["value"] (defScope s_is_command) := ⟨rfl, rfl, rfl, by decide +kernel, rfl, by decide +kernel, by decide +kernel⟩
abbrev sc_is_try_N : List Str := ["value"]
theorem sc_is_try : FnScope sc_is_try_N ["value"] (defScope s_is_try) := ⟨rfl, rfl, rfl, by decide +kernel, rfl, by decide +kernel, by decide +kernel⟩
abbrev sc_parts_of_N : List Str := ["value", "depth", "commands", "tries", "item", "inner", "block", "part"]
theorem sc_parts_of : FnScope sc_parts_of_N ["value", "depth"] (defScope s_parts_of) := ⟨rfl, rfl, rfl, by decide +kernel, rfl, by decide +kernel, by decide +kernel⟩
abbrev sc_is_program_N : List Str := ["value", "parts"]
theorem sc_is_program : FnScope sc_is_program_N ["value"] (defScope s_is_program) := ⟨rfl, rfl, rfl, by decide +kernel, rfl, by decide +kernel, by decide +kernel⟩
abbrev sc_number_in_N : List Str := ["text", "digits", "sign"]
theorem sc_number_in : FnScope sc_number_in_N ["text"] (defScope s_number_in) := ⟨rfl, rfl, rfl, by decide +kernel, rfl, by decide +kernel, by decide +kernel⟩
abbrev sc_command_in_N : List Str := ["text", "words", "command"]
theorem sc_command_in : FnScope sc_command_in_N ["text"] (defScope s_command_in) := ⟨rfl, rfl, rfl, by decide +kernel, rfl, by decide +kernel, by decide +kernel⟩
abbrev sc_need_text_N : List Str := ["text"]
theorem sc_need_text : FnScope sc_need_text_N ["text"] (defScope s_need_text) := ⟨rfl, rfl, rfl, by decide +kernel, rfl, by decide +kernel, by decide +kernel⟩
abbrev sc_command_end_N : List Str := ["text", "start", "at"]
theorem sc_command_end : FnScope sc_command_end_N ["text", "start"] (defScope s_command_end) := ⟨rfl, rfl, rfl, by decide +kernel, rfl, by decide +kernel, by decide +kernel⟩
abbrev sc_item_at_N : List Str := ["text", "start", "depth", "end", "command", "first", "second"]
theorem sc_item_at : FnScope sc_item_at_N ["text", "start", "depth"] (defScope s_item_at) := ⟨rfl, rfl, rfl, by decide +kernel, rfl, by decide +kernel, by decide +kernel⟩
abbrev sc_program_at_N : List Str := ["text", "start", "depth", "items", "found"]
theorem sc_program_at : FnScope sc_program_at_N ["text", "start", "depth"] (defScope s_program_at) := ⟨rfl, rfl, rfl, by decide +kernel, rfl, by decide +kernel, by decide +kernel⟩
abbrev sc_read_program_N : List Str := ["text", "found"]
theorem sc_read_program : FnScope sc_read_program_N ["text"] (defScope s_read_program) := ⟨rfl, rfl, rfl, by decide +kernel, rfl, by decide +kernel, by decide +kernel⟩
abbrev sc_l_word_N : List Str := ["_law_feed_here", "_law_many", "_law_k"]
theorem sc_l_word : FnScope sc_l_word_N ["_law_feed_here"] (defScope s_l_word) := ⟨rfl, rfl, rfl, by decide +kernel, rfl, by decide +kernel, by decide +kernel⟩
abbrev sc_l_number_N : List Str := ["_law_feed_here", "_law_near"]
theorem sc_l_number : FnScope sc_l_number_N ["_law_feed_here"] (defScope s_l_number) := ⟨rfl, rfl, rfl, by decide +kernel, rfl, by decide +kernel, by decide +kernel⟩
abbrev sc_l_command_N : List Str := ["_law_feed_here", "_law_known", "_law_label", "_law_way"]
theorem sc_l_command : FnScope sc_l_command_N ["_law_feed_here", "_law_known"] (defScope s_l_command) := ⟨rfl, rfl, rfl, by decide +kernel, rfl, by decide +kernel, by decide +kernel⟩
abbrev sc_l_is_word_N : List Str := ["_law_thing", "_law_sign"]
theorem sc_l_is_word : FnScope sc_l_is_word_N ["_law_thing"] (defScope s_l_is_word) := ⟨rfl, rfl, rfl, by decide +kernel, rfl, by decide +kernel, by decide +kernel⟩
abbrev sc_l_is_number_N : List Str := ["_law_thing"]
theorem sc_l_is_number : FnScope sc_l_is_number_N ["_law_thing"] (defScope s_l_is_number) := ⟨rfl, rfl, rfl, by decide +kernel, rfl, by decide +kernel, by decide +kernel⟩
abbrev sc_l_is_command_N : List Str := ["_law_thing"]
theorem sc_l_is_command : FnScope sc_l_is_command_N ["_law_thing"] (defScope s_l_is_command) := ⟨rfl, rfl, rfl, by decide +kernel, rfl, by decide +kernel, by decide +kernel⟩
abbrev sc_l_shown_N : List Str := ["_law_row", "_law_one", "_law_part"]
theorem sc_l_shown : FnScope sc_l_shown_N ["_law_row"] (defScope s_l_shown) := ⟨rfl, rfl, rfl, by decide +kernel, rfl, by decide +kernel, by decide +kernel⟩
abbrev sc_l_number_in_N : List Str := ["_law_part", "_law_digits", "_law_sign"]
theorem sc_l_number_in : FnScope sc_l_number_in_N ["_law_part"] (defScope s_l_number_in) := ⟨rfl, rfl, rfl, by decide +kernel, rfl, by decide +kernel, by decide +kernel⟩
abbrev sc_l_command_in_N : List Str := ["_law_words", "_law_found"]
theorem sc_l_command_in : FnScope sc_l_command_in_N ["_law_words"] (defScope s_l_command_in) := ⟨rfl, rfl, rfl, by decide +kernel, rfl, by decide +kernel, by decide +kernel⟩
abbrev sc_l_program_N : List Str := ["_law_feed_here", "_law_room", "_law_depth", "_law_found", "_law_turn", "_law_first"]
theorem sc_l_program : FnScope sc_l_program_N ["_law_feed_here", "_law_room", "_law_depth"] (defScope s_l_program) := ⟨rfl, rfl, rfl, by decide +kernel, rfl, by decide +kernel, by decide +kernel⟩
abbrev sc_l_bent_text_N : List Str := ["_law_feed_here", "_law_whole", "_law_spot", "_law_sign", "_law_parts", "_law_place", "_law_some"]
theorem sc_l_bent_text : FnScope sc_l_bent_text_N ["_law_feed_here", "_law_whole"] (defScope s_l_bent_text) := ⟨rfl, rfl, rfl, by decide +kernel, rfl, by decide +kernel, by decide +kernel⟩
abbrev sc_l_heard_N : List Str := ["_law_ask", "_law_found", "_law_caught", "error"]
theorem sc_l_heard : FnScope sc_l_heard_N ["_law_ask"] (defScope s_l_heard) := ⟨rfl, rfl, rfl, by decide +kernel, rfl, by decide +kernel, by decide +kernel⟩
abbrev sc_l_program_text_N : List Str := ["_law_row", "_law_parts", "_law_one", "_law_blocks"]
theorem sc_l_program_text : FnScope sc_l_program_text_N ["_law_row"] (defScope s_l_program_text) := ⟨rfl, rfl, rfl, by decide +kernel, rfl, by decide +kernel, by decide +kernel⟩
abbrev sc_l_try_in_N : List Str := ["_law_words", "_law_at", "_law_depth", "_law_first", "_law_second"]
theorem sc_l_try_in : FnScope sc_l_try_in_N ["_law_words", "_law_at", "_law_depth"] (defScope s_l_try_in) := ⟨rfl, rfl, rfl, by decide +kernel, rfl, by decide +kernel, by decide +kernel⟩
abbrev sc_l_block_in_N : List Str := ["_law_words", "_law_at", "_law_depth", "_law_found", "_law_one", "_law_last", "_law_many", "_law_row"]
theorem sc_l_block_in : FnScope sc_l_block_in_N ["_law_words", "_law_at", "_law_depth"] (defScope s_l_block_in) := ⟨rfl, rfl, rfl, by decide +kernel, rfl, by decide +kernel, by decide +kernel⟩
abbrev sc_l_size_N : List Str := ["_law_row", "_law_many", "_law_tries", "_law_one", "_law_sizes"]
theorem sc_l_size : FnScope sc_l_size_N ["_law_row"] (defScope s_l_size) := ⟨rfl, rfl, rfl, by decide +kernel, rfl, by decide +kernel, by decide +kernel⟩
abbrev sc_l_due_N : List Str := ["_law_thing", "_law_found", "_law_words", "_law_many", "_law_tries"]
theorem sc_l_due : FnScope sc_l_due_N ["_law_thing"] (defScope s_l_due) := ⟨rfl, rfl, rfl, by decide +kernel, rfl, by decide +kernel, by decide +kernel⟩
abbrev sc_law_N : List Str := ["_law_script", "_law_feed_here", "_law_deep", "_law_turn", "_law_whole", "_law_bent", "_law_things", "_law_due_here", "_law_block", "_law_deepest", "_law_thing"]
theorem sc_law : FnScope sc_law_N ["_law_script"] (defScope s_law) := ⟨rfl, rfl, rfl, by decide +kernel, rfl, by decide +kernel, by decide +kernel⟩
set_option maxHeartbeats 0 in
structure Facts (K : PySem.W.Frag) (mg : Str → Option Value) where
  z_ValueError : mg "ValueError" = none
  z_abs : mg "abs" = none
  z_all : mg "all" = none
  z_bool : mg "bool" = none
  z_int : mg "int" = none
  z_isinstance : mg "isinstance" = none
  z_len : mg "len" = none
  z_list : mg "list" = none
  z_range : mg "range" = none
  z_repr : mg "repr" = none
  z_str : mg "str" = none
  z_sum : mg "sum" = none
  z_tuple : mg "tuple" = none
  c_BACK : ∃ t, mg "BACK" = some (.str "back" t)
  c_DEEPEST_TRY : ∃ t, mg "DEEPEST_TRY" = some (.int 3 t)
  c_DEL : ∃ t, mg "DEL" = some (.str "del" t)
  c_DIGITS : ∃ t, mg "DIGITS" = some (.str "0123456789" t)
  c_ELSE : ∃ t, mg "ELSE" = some (.str " } else { " t)
  c_END : ∃ t, mg "END" = some (.str " }" t)
  c_GREATEST_VALUE : ∃ t, mg "GREATEST_VALUE" = some (.int 1000000000000000000 t)
  c_KEEP : ∃ t, mg "KEEP" = some (.str "keep" t)
  c_LETTERS : ∃ t, mg "LETTERS" = some (.str "abcdefghijklmnopqrstuvwxyz" t)
  c_LONGEST_WORD : ∃ t, mg "LONGEST_WORD" = some (.int 8 t)
  c_MARK : ∃ t, mg "MARK" = some (.str "mark" t)
  c_MOST_DEPTH : ∃ t, mg "MOST_DEPTH" = some (.int 3 t)
  c_MOST_DIGITS : ∃ t, mg "MOST_DIGITS" = some (.int 60 t)
  c_MOST_TRIED_COMMANDS : ∃ t, mg "MOST_TRIED_COMMANDS" = some (.int 20 t)
  c_MOST_TRIES : ∃ t, mg "MOST_TRIES" = some (.int 4 t)
  c_NOTHING : ∃ t, mg "NOTHING" = some (.str "-" t)
  c_SET : ∃ t, mg "SET" = some (.str "set" t)
  c_TRY_programs : ∃ t, mg "TRY_programs" = some (.str "try" t)
  c_TRY_reader : ∃ t, mg "TRY_reader" = some (.str "try { " t)
  C_RewindError : Addr
  m_RewindError : mg "RewindError" = some (.ref C_RewindError)
  C_InvalidState : Addr
  m_InvalidState : mg "InvalidState" = some (.ref C_InvalidState)
  C_InvalidScript : Addr
  m_InvalidScript : mg "InvalidScript" = some (.ref C_InvalidScript)
  C_InvalidCommand : Addr
  m_InvalidCommand : mg "InvalidCommand" = some (.ref C_InvalidCommand)
  C_InvalidProgram : Addr
  m_InvalidProgram : mg "InvalidProgram" = some (.ref C_InvalidProgram)
  C_InvalidText : Addr
  m_InvalidText : mg "InvalidText" = some (.ref C_InvalidText)
  C_InvalidLine : Addr
  m_InvalidLine : mg "InvalidLine" = some (.ref C_InvalidLine)
  C_Refused : Addr
  m_Refused : mg "Refused" = some (.ref C_Refused)
  C_Full : Addr
  m_Full : mg "Full" = some (.ref C_Full)
  C_TooLong : Addr
  m_TooLong : mg "TooLong" = some (.ref C_TooLong)
  C_TooLarge : Addr
  m_TooLarge : mg "TooLarge" = some (.ref C_TooLarge)
  er_InvalidText : ErrK K mg "InvalidText" "position"
  ei : ErrI K mg errT [(Str.ofString "RewindError", .ref C_RewindError), (Str.ofString "Refused", .ref C_Refused), (Str.ofString "Full", .ref C_Full), (Str.ofString "TooLong", .ref C_TooLong), (Str.ofString "TooLarge", .ref C_TooLarge), (Str.ofString "InvalidScript", .ref C_InvalidScript), (Str.ofString "InvalidState", .ref C_InvalidState), (Str.ofString "InvalidProgram", .ref C_InvalidProgram), (Str.ofString "InvalidCommand", .ref C_InvalidCommand), (Str.ofString "InvalidLine", .ref C_InvalidLine), (Str.ofString "InvalidText", .ref C_InvalidText), (Str.ofString "ValueError", .type "ValueError")]
  fo_position : FldOk K mg [Str.ofString "InvalidText"] "position"
  f_is_integer : Addr
  d_is_integer : FuncData
  F_is_integer : Fun K "is_integer" "is_integer" s_is_integer f_is_integer d_is_integer
  g_is_integer : mg "is_integer" = some (.ref f_is_integer)
  B_is_integer : Binds K d_is_integer ["value"] []
  f_is_between : Addr
  d_is_between : FuncData
  F_is_between : Fun K "is_between" "is_between" s_is_between f_is_between d_is_between
  g_is_between : mg "is_between" = some (.ref f_is_between)
  B_is_between : Binds K d_is_between ["value", "least", "most"] []
  f_is_word : Addr
  d_is_word : FuncData
  F_is_word : Fun K "is_word" "is_word" s_is_word f_is_word d_is_word
  g_is_word : mg "is_word" = some (.ref f_is_word)
  B_is_word : Binds K d_is_word ["value"] []
  f_is_value : Addr
  d_is_value : FuncData
  F_is_value : Fun K "is_value" "is_value" s_is_value f_is_value d_is_value
  g_is_value : mg "is_value" = some (.ref f_is_value)
  B_is_value : Binds K d_is_value ["value"] []
  f_is_command : Addr
  d_is_command : FuncData
  F_is_command : Fun K "is_command" "is_command" s_is_command f_is_command d_is_command
  g_is_command : mg "is_command" = some (.ref f_is_command)
  B_is_command : Binds K d_is_command ["value"] []
  f_is_try : Addr
  d_is_try : FuncData
  F_is_try : Fun K "is_try" "is_try" s_is_try f_is_try d_is_try
  g_is_try : mg "is_try" = some (.ref f_is_try)
  B_is_try : Binds K d_is_try ["value"] []
  f_parts_of : Addr
  d_parts_of : FuncData
  F_parts_of : Fun K "parts_of" "parts_of" s_parts_of f_parts_of d_parts_of
  g_parts_of : mg "parts_of" = some (.ref f_parts_of)
  B_parts_of : Binds K d_parts_of ["value", "depth"] []
  f_is_program : Addr
  d_is_program : FuncData
  F_is_program : Fun K "is_program" "is_program" s_is_program f_is_program d_is_program
  g_is_program : mg "is_program" = some (.ref f_is_program)
  B_is_program : Binds K d_is_program ["value"] []
  f_number_in : Addr
  d_number_in : FuncData
  F_number_in : Fun K "number_in" "number_in" s_number_in f_number_in d_number_in
  g_number_in : mg "number_in" = some (.ref f_number_in)
  B_number_in : Binds K d_number_in ["text"] []
  f_command_in : Addr
  d_command_in : FuncData
  F_command_in : Fun K "command_in" "command_in" s_command_in f_command_in d_command_in
  g_command_in : mg "command_in" = some (.ref f_command_in)
  B_command_in : Binds K d_command_in ["text"] []
  f_need_text : Addr
  d_need_text : FuncData
  F_need_text : Fun K "need_text" "need_text" s_need_text f_need_text d_need_text
  g_need_text : mg "need_text" = some (.ref f_need_text)
  B_need_text : Binds K d_need_text ["text"] []
  f_command_end : Addr
  d_command_end : FuncData
  F_command_end : Fun K "command_end" "command_end" s_command_end f_command_end d_command_end
  g_command_end : mg "command_end" = some (.ref f_command_end)
  B_command_end : Binds K d_command_end ["text", "start"] []
  f_item_at : Addr
  d_item_at : FuncData
  F_item_at : Fun K "item_at" "item_at" s_item_at f_item_at d_item_at
  g_item_at : mg "item_at" = some (.ref f_item_at)
  B_item_at : Binds K d_item_at ["text", "start", "depth"] []
  f_program_at : Addr
  d_program_at : FuncData
  F_program_at : Fun K "program_at" "program_at" s_program_at f_program_at d_program_at
  g_program_at : mg "program_at" = some (.ref f_program_at)
  B_program_at : Binds K d_program_at ["text", "start", "depth"] []
  f_read_program : Addr
  d_read_program : FuncData
  F_read_program : Fun K "read_program" "read_program" s_read_program f_read_program d_read_program
  g_read_program : mg "read_program" = some (.ref f_read_program)
  B_read_program : Binds K d_read_program ["text"] []
  f_l_feed : Addr
  d_l_feed : FuncData
  F_l_feed : Fun K "_law_feed" "_law_feed" s_l_feed f_l_feed d_l_feed
  g_l_feed : mg "_law_feed" = some (.ref f_l_feed)
  B_l_feed : Binds K d_l_feed ["_law_script"] []
  f_l_take : Addr
  d_l_take : FuncData
  F_l_take : Fun K "_law_take" "_law_take" s_l_take f_l_take d_l_take
  g_l_take : mg "_law_take" = some (.ref f_l_take)
  B_l_take : Binds K d_l_take ["_law_feed_here", "_law_bound"] []
  f_l_word : Addr
  d_l_word : FuncData
  F_l_word : Fun K "_law_word" "_law_word" s_l_word f_l_word d_l_word
  g_l_word : mg "_law_word" = some (.ref f_l_word)
  B_l_word : Binds K d_l_word ["_law_feed_here"] []
  f_l_number : Addr
  d_l_number : FuncData
  F_l_number : Fun K "_law_number" "_law_number" s_l_number f_l_number d_l_number
  g_l_number : mg "_law_number" = some (.ref f_l_number)
  B_l_number : Binds K d_l_number ["_law_feed_here"] []
  f_l_command : Addr
  d_l_command : FuncData
  F_l_command : Fun K "_law_command" "_law_command" s_l_command f_l_command d_l_command
  g_l_command : mg "_law_command" = some (.ref f_l_command)
  B_l_command : Binds K d_l_command ["_law_feed_here", "_law_known"] []
  f_l_is_word : Addr
  d_l_is_word : FuncData
  F_l_is_word : Fun K "_law_is_word" "_law_is_word" s_l_is_word f_l_is_word d_l_is_word
  g_l_is_word : mg "_law_is_word" = some (.ref f_l_is_word)
  B_l_is_word : Binds K d_l_is_word ["_law_thing"] []
  f_l_is_number : Addr
  d_l_is_number : FuncData
  F_l_is_number : Fun K "_law_is_number" "_law_is_number" s_l_is_number f_l_is_number d_l_is_number
  g_l_is_number : mg "_law_is_number" = some (.ref f_l_is_number)
  B_l_is_number : Binds K d_l_is_number ["_law_thing"] []
  f_l_is_command : Addr
  d_l_is_command : FuncData
  F_l_is_command : Fun K "_law_is_command" "_law_is_command" s_l_is_command f_l_is_command d_l_is_command
  g_l_is_command : mg "_law_is_command" = some (.ref f_l_is_command)
  B_l_is_command : Binds K d_l_is_command ["_law_thing"] []
  f_l_shown : Addr
  d_l_shown : FuncData
  F_l_shown : Fun K "_law_shown" "_law_shown" s_l_shown f_l_shown d_l_shown
  g_l_shown : mg "_law_shown" = some (.ref f_l_shown)
  B_l_shown : Binds K d_l_shown ["_law_row"] []
  f_l_number_in : Addr
  d_l_number_in : FuncData
  F_l_number_in : Fun K "_law_number_in" "_law_number_in" s_l_number_in f_l_number_in d_l_number_in
  g_l_number_in : mg "_law_number_in" = some (.ref f_l_number_in)
  B_l_number_in : Binds K d_l_number_in ["_law_part"] []
  f_l_command_in : Addr
  d_l_command_in : FuncData
  F_l_command_in : Fun K "_law_command_in" "_law_command_in" s_l_command_in f_l_command_in d_l_command_in
  g_l_command_in : mg "_law_command_in" = some (.ref f_l_command_in)
  B_l_command_in : Binds K d_l_command_in ["_law_words"] []
  f_l_program : Addr
  d_l_program : FuncData
  F_l_program : Fun K "_law_program" "_law_program" s_l_program f_l_program d_l_program
  g_l_program : mg "_law_program" = some (.ref f_l_program)
  B_l_program : Binds K d_l_program ["_law_feed_here", "_law_room", "_law_depth"] []
  f_l_bent_text : Addr
  d_l_bent_text : FuncData
  F_l_bent_text : Fun K "_law_bent_text" "_law_bent_text" s_l_bent_text f_l_bent_text d_l_bent_text
  g_l_bent_text : mg "_law_bent_text" = some (.ref f_l_bent_text)
  B_l_bent_text : Binds K d_l_bent_text ["_law_feed_here", "_law_whole"] []
  f_l_heard : Addr
  d_l_heard : FuncData
  F_l_heard : Fun K "_law_heard" "_law_heard" s_l_heard f_l_heard d_l_heard
  g_l_heard : mg "_law_heard" = some (.ref f_l_heard)
  B_l_heard : Binds K d_l_heard ["_law_ask"] []
  f_l_program_text : Addr
  d_l_program_text : FuncData
  F_l_program_text : Fun K "_law_program_text" "_law_program_text" s_l_program_text f_l_program_text d_l_program_text
  g_l_program_text : mg "_law_program_text" = some (.ref f_l_program_text)
  B_l_program_text : Binds K d_l_program_text ["_law_row"] []
  f_l_try_in : Addr
  d_l_try_in : FuncData
  F_l_try_in : Fun K "_law_try_in" "_law_try_in" s_l_try_in f_l_try_in d_l_try_in
  g_l_try_in : mg "_law_try_in" = some (.ref f_l_try_in)
  B_l_try_in : Binds K d_l_try_in ["_law_words", "_law_at", "_law_depth"] []
  f_l_block_in : Addr
  d_l_block_in : FuncData
  F_l_block_in : Fun K "_law_block_in" "_law_block_in" s_l_block_in f_l_block_in d_l_block_in
  g_l_block_in : mg "_law_block_in" = some (.ref f_l_block_in)
  B_l_block_in : Binds K d_l_block_in ["_law_words", "_law_at", "_law_depth"] []
  f_l_size : Addr
  d_l_size : FuncData
  F_l_size : Fun K "_law_size" "_law_size" s_l_size f_l_size d_l_size
  g_l_size : mg "_law_size" = some (.ref f_l_size)
  B_l_size : Binds K d_l_size ["_law_row"] []
  f_l_due : Addr
  d_l_due : FuncData
  F_l_due : Fun K "_law_due" "_law_due" s_l_due f_l_due d_l_due
  g_l_due : mg "_law_due" = some (.ref f_l_due)
  B_l_due : Binds K d_l_due ["_law_thing"] []
  f_law : Addr
  d_law : FuncData
  F_law : Fun K "law" "law" s_law f_law d_law
  g_law : mg "law" = some (.ref f_law)
  B_law : Binds K d_law ["_law_script"] []
  cc_law : Addr
  P_law : Addr
  code_law : d_law.code = .ref cc_law
abbrev Facts.tb {K : PySem.W.Frag} {mg : Str → Option Value} (T : Facts K mg) : List (Addr × Str) := [(T.P_law, (PyProof.Rows.envOfC "law" (defScope s_law) 0 0 .none).qual ++ "<lambda>")]
section
variable {P : Program} {w : World} {K : PySem.W.Frag} {mg : Str → Option Value} {base : Heap} (T : Facts K mg)
include T
theorem ok_l_take : FnG P w K mg base 1 T.f_l_take T.d_l_take ["_law_feed_here", "_law_bound"] (spM ((penG.wt T.tb mg).wc true) K mg 2 drawM) := ok_draw T.F_l_take T.z_len T.z_abs T.z_int
end
end Q82

namespace Q82
open PySem PySem.Spec L2 PL LamX
section
variable {P : Program} {w : World} {K : PySem.W.Frag} {mg : Str → Option Value} {base : Heap} (T : Facts K mg)
include T
set_option maxHeartbeats 0 in
theorem ok_is_integer : FnG P w K mg base 1 T.f_is_integer T.d_is_integer ["value"] (spM ((penG.wt T.tb mg).wc true) K mg 1 m_is_integer) := by
  have nd := sc_is_integer.nd
  refine fn_okG (m := m_is_integer) (Sh := fun args => ∃ value : D, args = [.d value]) T.F_is_integer sc_is_integer (by decide) (fun args n P PX h => ?_) ?_
  · unfold m_is_integer at h; split at h
    all_goals first | exact ⟨_, rfl⟩ | exact False.elim h
  · rintro args ⟨value, rfl⟩ cdv A outer s H E Wx hg hr tk po
    show SG _ _ _ _ _ EnT (d_is_integer value)
    unfold d_is_integer
    exact (sg_retT (e_and (e_isi .int (T.z_isinstance) (T.z_int) (by decide +kernel) (e_nm 0)) (e_one (e_not (e_isi .bool (T.z_isinstance) (T.z_bool) (by decide +kernel) (e_nm 0))))) rfl (fun _ => rfl))
end
end Q82

namespace Q82
open PySem PySem.Spec L2 PL LamX
section
variable {P : Program} {w : World} {K : PySem.W.Frag} {mg : Str → Option Value} {base : Heap} (T : Facts K mg)
include T
set_option maxHeartbeats 0 in
theorem ok_is_between : FnG P w K mg base 2 T.f_is_between T.d_is_between ["value", "least", "most"] (spM ((penG.wt T.tb mg).wc true) K mg 3 m_is_between) := by
  have nd := sc_is_between.nd
  refine fn_okG (m := m_is_between) (Sh := fun args => ∃ value : D, ∃ least : D, ∃ most : D, args = [.d value, .d least, .d most]) T.F_is_between sc_is_between (by decide) (fun args n P PX h => ?_) ?_
  · unfold m_is_between at h; split at h
    all_goals first | exact ⟨_, _, _, rfl⟩ | exact False.elim h
  · rintro args ⟨value, least, most, rfl⟩ cdv A outer s H E Wx hg hr tk po
    show SG _ _ _ _ _ EnT (d_is_between value least most)
    unfold d_is_between
    exact (sg_retT (e_and (e_call (ps := ["value"]) ⟨ok_is_integer T, T.g_is_integer, T.F_is_integer.kp⟩ hg (hr.mono (by decide)) tk T.B_is_integer (v_cons (e_nm 0) (v_nil))) (e_one (e_chain (cm_le) (cm_le) (e_nm 1) (e_nm 0) (e_nm 2)))) rfl (fun _ => rfl))
end
end Q82

namespace Q82
open PySem PySem.Spec L2 PL LamX
section
variable {P : Program} {w : World} {K : PySem.W.Frag} {mg : Str → Option Value} {base : Heap} (T : Facts K mg)
include T
set_option maxHeartbeats 0 in
theorem ok_is_word : FnG P w K mg base 1 T.f_is_word T.d_is_word ["value"] (spM ((penG.wt T.tb mg).wc true) K mg 1 m_is_word) := by
  have nd := sc_is_word.nd
  refine fn_okG (m := m_is_word) (Sh := fun args => ∃ value : D, args = [.d value]) T.F_is_word sc_is_word (by decide) (fun args n P PX h => ?_) ?_
  · unfold m_is_word at h; split at h
    all_goals first | exact ⟨_, rfl⟩ | exact False.elim h
  · rintro args ⟨value, rfl⟩ cdv A outer s H E Wx hg hr tk po
    show SG _ _ _ _ _ EnT (d_is_word value)
    unfold d_is_word
    exact (sg_if ((tw_or (t_not (t_truth (e_isi .str (T.z_isinstance) (T.z_str) (by decide +kernel) (e_nm 0)))) (tw_or1 (t_not (t_chain (cm_le) (cm_le) (e_int) (e_lenI (T.z_len) (e_nm 0)) (e_gi T.c_LONGEST_WORD.choose_spec))))).t) rfl
    (sg_retP (d := (.bl false)) (e_bl) rfl rfl)
    (sg_push (sg_retT (e_all rfl (T.z_all) ((o_lcQ (own := [("sign", 1)]) (t := (.nm 1)) (f := chD) (mu := ret) (ee := (fun a ρ => ρ.set 1 (.d (chD a)))) (fun _ => rfl) (fun x ρ => setT_1 1 chD x ρ) rfl nd (w_strZ (e_nm 0)) (blkOk_by (own := [("sign", 1)]) (N := sc_is_word_N) (sc := defScope s_is_word) (by decide +kernel)) (fun _ _ _ _ _ => g_nm 1 nd) (fun _ _ _ _ _ => ts_nil) (fun _ _ _ _ _ => e_cmp (cm_inS) (e_nm 1) (e_gs T.c_LETTERS.choose_spec))).e)) rfl (fun _ => rfl))))
end
end Q82

namespace Q82
open PySem PySem.Spec L2 PL LamX
section
variable {P : Program} {w : World} {K : PySem.W.Frag} {mg : Str → Option Value} {base : Heap} (T : Facts K mg)
include T
set_option maxHeartbeats 0 in
theorem ok_is_value : FnG P w K mg base 3 T.f_is_value T.d_is_value ["value"] (spM ((penG.wt T.tb mg).wc true) K mg 1 m_is_value) := by
  have nd := sc_is_value.nd
  refine fn_okG (m := m_is_value) (Sh := fun args => ∃ value : D, args = [.d value]) T.F_is_value sc_is_value (by decide) (fun args n P PX h => ?_) ?_
  · unfold m_is_value at h; split at h
    all_goals first | exact ⟨_, rfl⟩ | exact False.elim h
  · rintro args ⟨value, rfl⟩ cdv A outer s H E Wx hg hr tk po
    show SG _ _ _ _ _ EnT (d_is_value value)
    unfold d_is_value
    exact (sg_retT (e_call (ps := ["value", "least", "most"]) ⟨ok_is_between T, T.g_is_between, T.F_is_between.kp⟩ hg (hr.mono (by decide)) tk T.B_is_between (v_cons (e_nm 0) (v_cons (e_neg (e_gi T.c_GREATEST_VALUE.choose_spec)) (v_cons (e_gi T.c_GREATEST_VALUE.choose_spec) (v_nil))))) rfl (fun _ => rfl))
end
end Q82

namespace Q82
open PySem PySem.Spec L2 PL LamX
section
variable {P : Program} {w : World} {K : PySem.W.Frag} {mg : Str → Option Value} {base : Heap} (T : Facts K mg)
include T
set_option maxHeartbeats 0 in
theorem ok_is_command : FnG P w K mg base 4 T.f_is_command T.d_is_command ["value"] (spM ((penG.wt T.tb mg).wc true) K mg 1 m_is_command) := by
  have nd := sc_is_command.nd
  refine fn_okG (m := m_is_command) (Sh := fun args => ∃ value : D, args = [.d value]) T.F_is_command sc_is_command (by decide) (fun args n P PX h => ?_) ?_
  · unfold m_is_command at h; split at h
    all_goals first | exact ⟨_, rfl⟩ | exact False.elim h
  · rintro args ⟨value, rfl⟩ cdv A outer s H E Wx hg hr tk po
    show SG _ _ _ _ _ EnT (d_is_command value)
    unfold d_is_command
    exact (sg_if ((tw_or (t_not (t_truth (e_isi .tup (T.z_isinstance) (T.z_tuple) (by decide +kernel) (e_nm 0)))) (tw_or (t_cmp (cm_lt) (e_lenI (T.z_len) (e_nm 0)) (e_int)) (tw_or (t_not (t_truth (e_isi .str (T.z_isinstance) (T.z_str) (by decide +kernel) (e_ix (e_nm 0) (e_int))))) (tw_or1 (t_not (t_truth (e_call (ps := ["value"]) ⟨ok_is_word T, T.g_is_word, T.F_is_word.kp⟩ hg (hr.mono (by decide)) tk T.B_is_word (v_cons (e_ix (e_nm 0) (e_int)) (v_nil))))))))).t) rfl
    (sg_retP (d := (.bl false)) (e_bl) rfl rfl)
    (sg_push (sg_if (t_cmp (cm_eq (u64 hr)) (e_ix (e_nm 0) (e_int)) (e_gs T.c_SET.choose_spec)) rfl
    (sg_retT (e_and (e_cmp (cm_eqI (u64 hr)) (e_lenI (T.z_len) (e_nm 0)) (e_int)) (e_one (e_call (ps := ["value"]) ⟨ok_is_value T, T.g_is_value, T.F_is_value.kp⟩ hg (hr.mono (by decide)) tk T.B_is_value (v_cons (e_ix (e_nm 0) (e_int)) (v_nil))))) rfl (fun _ => rfl))
    (sg_push (sg_retT (e_and (e_cmp (cm_eqI (u64 hr)) (e_lenI (T.z_len) (e_nm 0)) (e_int)) (e_one (e_cmp (cm_in) (e_ix (e_nm 0) (e_int)) (e_tupL (al_cons (e_gs T.c_DEL.choose_spec) (al_cons (e_gs T.c_MARK.choose_spec) (al_cons (e_gs T.c_BACK.choose_spec) (al_cons (e_gs T.c_KEEP.choose_spec) (al_nil))))))))) rfl (fun _ => rfl))))))
end
end Q82

namespace Q82
open PySem PySem.Spec L2 PL LamX
section
variable {P : Program} {w : World} {K : PySem.W.Frag} {mg : Str → Option Value} {base : Heap} (T : Facts K mg)
include T
set_option maxHeartbeats 0 in
theorem ok_is_try : FnG P w K mg base 1 T.f_is_try T.d_is_try ["value"] (spM ((penG.wt T.tb mg).wc true) K mg 1 m_is_try) := by
  have nd := sc_is_try.nd
  refine fn_okG (m := m_is_try) (Sh := fun args => ∃ value : D, args = [.d value]) T.F_is_try sc_is_try (by decide) (fun args n P PX h => ?_) ?_
  · unfold m_is_try at h; split at h
    all_goals first | exact ⟨_, rfl⟩ | exact False.elim h
  · rintro args ⟨value, rfl⟩ cdv A outer s H E Wx hg hr tk po
    show SG _ _ _ _ _ EnT (d_is_try value)
    unfold d_is_try
    exact (sg_retT (e_and (e_isi .tup (T.z_isinstance) (T.z_tuple) (by decide +kernel) (e_nm 0)) (e_and (e_cmp (cm_eqI (u64 hr)) (e_lenI (T.z_len) (e_nm 0)) (e_int)) (e_and (e_isi .str (T.z_isinstance) (T.z_str) (by decide +kernel) (e_ix (e_nm 0) (e_int))) (e_one (e_cmp (cm_eq (u64 hr)) (e_ix (e_nm 0) (e_int)) (e_gs T.c_TRY_programs.choose_spec)))))) rfl (fun _ => rfl))
end
end Q82

namespace Q82
open PySem PySem.Spec L2 PL LamX
section
variable {P : Program} {w : World} {K : PySem.W.Frag} {mg : Str → Option Value} {base : Heap} (T : Facts K mg)
include T
set_option maxHeartbeats 0 in
theorem ok_parts_of : ∀ n : Nat, FnG P w K mg base (5 + n) T.f_parts_of T.d_parts_of ["value", "depth"] (spM ((penG.wt T.tb mg).wc true) K mg 2 (m_parts_of n))
  | 0 => ⟨fun vs H Q E ⟨S, pen, args, n, P, PX, hl, _, _, _, _, r, _⟩ => r.len.trans hl, fun A outer s H args us vs Q E hg hr he hb r ⟨S, pen, args, n, P, PX, hl, _, _, _, _, _, q, _⟩ => False.elim q⟩
  | n + 1 => by
    have IH := ok_parts_of n
    have nd := sc_parts_of.nd
    refine fn_okG (m := m_parts_of (n + 1)) (Sh := fun args => ∃ value : D, ∃ depth : Int, args = [.d value, .d (.int depth)]) T.F_parts_of sc_parts_of (by decide) (fun args n0 P PX h => ?_) ?_
    · replace h : mm_parts_of (m_parts_of n) args n0 P PX := h
      unfold mm_parts_of at h; split at h
      all_goals first | exact ⟨_, _, rfl⟩ | exact False.elim h
    · rintro args ⟨value, depth, rfl⟩ cdv A outer s H E Wx hg hr tk po
      show SG _ _ _ _ _ EnT (d_parts_of (m_parts_of n) value depth)
      unfold d_parts_of
      exact (sg_ifP (t_not (t_truth (e_isis (ts := [.tup, .lst]) (T.z_isinstance) (cl_cons .tup (T.z_tuple) (by decide +kernel) (cl_cons .lst (T.z_list) (by decide +kernel) (cl_nil))) (e_nm 0)))) rfl
    (sg_retP (d := .non) (e_non) rfl rfl)
    (sg_push (sg_asg2P (z1 := (.int 0)) (z2 := (.int 0)) (ρ' := [.d value, .d (.int depth), .d (.int 0), .d (.int 0), .un, .un, .un, .un]) 2 3 8 (e_tupL (hz := Nat.le_of_ble_eq_true rfl) (al_cons (e_int) (al_cons (e_int) (al_nil)))) (g_tp rfl (gs_cons (g_nm 2 nd) (gs_cons (g_nm 3 nd) (gs_nil)))) rfl rfl (by decide) (by decide) (by decide) rfl (sg_forI (t := (.nm 4)) (f := (fun y : D => y)) (emb := (fun j : Int × Int => [.d value, .d (.int depth), .d (.int j.1), .d (.int j.2), .un, .un, .un, .un])) (e := (fun a j => [.d value, .d (.int depth), .d (.int j.1), .d (.int j.2), .d a, .un, .un, .un])) po rfl (w_seqZ (e_nm 0)) (g_nm 4 nd) rfl seqT_map id_inj (Le.same (Le.same (Le.same (Le.same (Le.same (Le.same (Le.same (Le.same (Le.nil))))))))) (fun x j => rfl) (fun j a b h => id_inj _ _ (by have q := congrArg (·[4]?) h; exact SV.d.inj (Option.some.inj q)))
    (fun item j => sg_if (t_truth (e_call (ps := ["value"]) ⟨ok_is_command T, T.g_is_command, T.F_is_command.kp⟩ hg (hr.mono (Nat.le_trans (show _ ≤ 5 by decide) (Nat.le_add_right 5 _))) tk T.B_is_command (v_cons (e_nm 4) (v_nil)))) rfl
    (sg_augIP (z := (j.1 + 1)) (ρ' := [.d value, .d (.int depth), .d (.int (j.1 + 1)), .d (.int j.2), .d item, .un, .un, .un]) 2 (e_int) nd rfl rfl (sg_push (sg_nil ⟨((j.1 + 1), j.2), rfl, (Le.same (Le.same (Le.same (Le.same (Le.un (Le.same (Le.same (Le.same (Le.nil)))))))))⟩)))
    (sg_if ((tw_and (t_truth (e_call (ps := ["value"]) ⟨ok_is_try T, T.g_is_try, T.F_is_try.kp⟩ hg (hr.mono (Nat.le_trans (show _ ≤ 5 by decide) (Nat.le_add_right 5 _))) tk T.B_is_try (v_cons (e_nm 4) (v_nil)))) (tw_and1 (t_cmp (cm_lt) (e_nm 1) (e_gi T.c_DEEPEST_TRY.choose_spec)))).t) rfl
    (sg_asgLc (ρ' := fun inner => [.d value, .d (.int depth), .d (.int j.1), .d (.int j.2), .d item, .d (.lst inner), .un, .un]) (own := [("block", 6)]) (t := (.nm 6)) (f := (fun y : D => y)) (mu := ret) (ee := (fun a ρ => ρ.set 6 (.d a))) 5 8 seqT_map (fun x ρ => setT_1 6 (fun y : D => y) x ρ) rfl nd (w_seqZ (e_sl (e_nm 4) (p_some (e_int)) (p_none))) (blkOk_by (own := [("block", 6)]) (N := sc_parts_of_N) (sc := defScope s_parts_of) (by decide +kernel)) (fun _ _ _ _ _ => g_nm 6 nd) (fun _ _ _ _ _ => ts_nil) (fun _ _ _ _ _ => e_call (ps := ["value", "depth"]) ⟨IH, T.g_parts_of, T.F_parts_of.kp⟩ hg hr L2.takes0 T.B_parts_of (v_cons (e_nm 6) (v_cons (e_add (e_nm 1) (e_int)) (v_nil)))) rfl rfl (by decide) (fun _ => rfl) (fun inner => sg_if (t_cmp (cm_inDp (u65 hr)) (e_non) (e_nm 5)) rfl
    (sg_retP (d := .non) (e_non) rfl ⟨ret .non, rfl, rfl⟩)
    (sg_push (sg_augI (ρ' := fun commands => [.d value, .d (.int depth), .d (.int commands), .d (.int j.2), .d item, .d (.lst inner), .un, .un]) 2 8 (e_sum rfl (T.z_sum) ((o_lcQ (own := [("part", 7)]) (t := (.nm 7)) (f := (fun y : D => y)) (mu := ret) (ee := (fun a ρ => ρ.set 7 (.d a))) seqT_map (fun x ρ => setT_1 7 (fun y : D => y) x ρ) rfl nd (w_seqZ (e_nm 5)) (blkOk_by (own := [("part", 7)]) (N := sc_parts_of_N) (sc := defScope s_parts_of) (by decide +kernel)) (fun _ _ _ _ _ => g_nm 7 nd) (fun _ _ _ _ _ => ts_nil) (fun _ _ _ _ _ => e_ix (e_nm 7) (e_int))).e)) nd rfl rfl (by decide) (fun _ => rfl) (fun commands => sg_augI (ρ' := fun tries => [.d value, .d (.int depth), .d (.int commands), .d (.int tries), .d item, .d (.lst inner), .un, .un]) 3 8 (e_add (e_int) (e_sum rfl (T.z_sum) ((o_lcQ (own := [("part", 7)]) (t := (.nm 7)) (f := (fun y : D => y)) (mu := ret) (ee := (fun a ρ => ρ.set 7 (.d a))) seqT_map (fun x ρ => setT_1 7 (fun y : D => y) x ρ) rfl nd (w_seqZ (e_nm 5)) (blkOk_by (own := [("part", 7)]) (N := sc_parts_of_N) (sc := defScope s_parts_of) (by decide +kernel)) (fun _ _ _ _ _ => g_nm 7 nd) (fun _ _ _ _ _ => ts_nil) (fun _ _ _ _ _ => e_ix (e_nm 7) (e_int))).e))) nd rfl rfl (by decide) (fun _ => rfl) (fun tries => sg_push (sg_push (sg_nil ⟨(commands, tries), rfl, (Le.same (Le.same (Le.same (Le.same (Le.un (Le.un (Le.same (Le.same (Le.nil)))))))))⟩))))))))
    (sg_retP (d := .non) (e_non) rfl ⟨ret .non, rfl, rfl⟩)))
    (fun j1 => sg_retP (d := (.tup [(.int j1.1), (.int j1.2)])) (e_tupL (hz := Nat.le_of_ble_eq_true rfl) (al_cons (e_nm 2) (al_cons (e_nm 3) (al_nil)))) rfl rfl)))))
theorem okk_parts_of : FnG P w K mg base 11 T.f_parts_of T.d_parts_of ["value", "depth"] (spM ((penG.wt T.tb mg).wc true) K mg 2 k_parts_of) := by
  rw [k_parts_of_eq]
  exact ok_parts_of T 6
end
end Q82

namespace Q82
open PySem PySem.Spec L2 PL LamX
section
variable {P : Program} {w : World} {K : PySem.W.Frag} {mg : Str → Option Value} {base : Heap} (T : Facts K mg)
include T
set_option maxHeartbeats 0 in
theorem ok_is_program : FnG P w K mg base 12 T.f_is_program T.d_is_program ["value"] (spM ((penG.wt T.tb mg).wc true) K mg 1 m_is_program) := by
  have nd := sc_is_program.nd
  refine fn_okG (m := m_is_program) (Sh := fun args => ∃ value : D, args = [.d value]) T.F_is_program sc_is_program (by decide) (fun args n P PX h => ?_) ?_
  · unfold m_is_program at h; split at h
    all_goals first | exact ⟨_, rfl⟩ | exact False.elim h
  · rintro args ⟨value, rfl⟩ cdv A outer s H E Wx hg hr tk po
    show SG _ _ _ _ _ EnT (d_is_program value)
    unfold d_is_program
    exact (sg_asg (f := (fun x => x)) (ρ' := fun parts => [.d value, .d parts]) 1 2 (e_call (ps := ["value", "depth"]) ⟨okk_parts_of T, T.g_parts_of, T.F_parts_of.kp⟩ hg (hr.mono (by decide)) tk T.B_parts_of (v_cons (e_nm 0) (v_cons (e_int) (v_nil)))) (g_nm 1 nd) rfl id_inj rfl (by decide) (fun _ => rfl) (fun parts => sg_retT (e_and (e_cmp (cm_isnot) (e_nm 1) (e_non)) (e_and (e_cmp (cm_le) (e_asI (e_ix (e_nm 1) (e_int))) (e_gi T.c_MOST_TRIED_COMMANDS.choose_spec)) (e_one (e_cmp (cm_le) (e_asI (e_ix (e_nm 1) (e_int))) (e_gi T.c_MOST_TRIES.choose_spec))))) rfl (fun _ => rfl)))
end
end Q82

namespace Q82
open PySem PySem.Spec L2 PL LamX
section
variable {P : Program} {w : World} {K : PySem.W.Frag} {mg : Str → Option Value} {base : Heap} (T : Facts K mg)
include T
set_option maxHeartbeats 0 in
theorem ok_number_in : FnG P w K mg base 1 T.f_number_in T.d_number_in ["text"] (spM ((penG.wt T.tb mg).wc true) K mg 1 m_number_in) := by
  have nd := sc_number_in.nd
  refine fn_okG (m := m_number_in) (Sh := fun args => ∃ text : D, args = [.d text]) T.F_number_in sc_number_in (by decide) (fun args n P PX h => ?_) ?_
  · unfold m_number_in at h; split at h
    all_goals first | exact ⟨_, rfl⟩ | exact False.elim h
  · rintro args ⟨text, rfl⟩ cdv A outer s H E Wx hg hr tk po
    show SG _ _ _ _ _ EnT (d_number_in text)
    unfold d_number_in
    exact (sg_asg (f := (fun x => x)) (ρ' := fun digits => [.d text, .d digits, .un]) 1 3 (e_if (t_cmp (cm_eq (u64 hr)) (e_sl (e_nm 0) (p_none) (p_some (e_int))) (e_str (x := Str.ofString "-"))) (e_sl (e_nm 0) (p_some (e_int)) (p_none)) (e_nm 0)) (g_nm 1 nd) rfl id_inj rfl (by decide) (fun _ => rfl) (fun digits => sg_if ((tw_or (t_not (t_chain (cm_le) (cm_le) (e_int) (e_lenI (T.z_len) (e_nm 1)) (e_gi T.c_MOST_DIGITS.choose_spec))) (tw_or1 (t_not (t_truth (e_all rfl (T.z_all) ((o_lcQ (own := [("sign", 2)]) (t := (.nm 2)) (f := chD) (mu := ret) (ee := (fun a ρ => ρ.set 2 (.d (chD a)))) (fun _ => rfl) (fun x ρ => setT_1 2 chD x ρ) rfl nd (w_strZ (e_nm 1)) (blkOk_by (own := [("sign", 2)]) (N := sc_number_in_N) (sc := defScope s_number_in) (by decide +kernel)) (fun _ _ _ _ _ => g_nm 2 nd) (fun _ _ _ _ _ => ts_nil) (fun _ _ _ _ _ => e_cmp (cm_inS) (e_nm 2) (e_gs T.c_DIGITS.choose_spec))).e)))))).t) rfl
    (sg_retP (d := .non) (e_non) rfl rfl)
    (sg_push (sg_if ((tw_and (t_cmp (cm_eq (u64 hr)) (e_ix (e_nm 1) (e_int)) (e_str (x := Str.ofString "0"))) (tw_and1 (t_cmp (cm_ne (u64 hr)) (e_nm 0) (e_str (x := Str.ofString "0"))))).t) rfl
    (sg_retP (d := .non) (e_non) rfl rfl)
    (sg_push (sg_retT (e_intT (T.z_int) (e_nm 0)) rfl (fun _ => rfl)))))))
end
end Q82

namespace Q82
open PySem PySem.Spec L2 PL LamX
section
variable {P : Program} {w : World} {K : PySem.W.Frag} {mg : Str → Option Value} {base : Heap} (T : Facts K mg)
include T
set_option maxHeartbeats 0 in
theorem ok_command_in : FnG P w K mg base 5 T.f_command_in T.d_command_in ["text"] (spM ((penG.wt T.tb mg).wc true) K mg 1 m_command_in) := by
  have nd := sc_command_in.nd
  refine fn_okG (m := m_command_in) (Sh := fun args => ∃ text : D, args = [.d text]) T.F_command_in sc_command_in (by decide) (fun args n P PX h => ?_) ?_
  · unfold m_command_in at h; split at h
    all_goals first | exact ⟨_, rfl⟩ | exact False.elim h
  · rintro args ⟨text, rfl⟩ cdv A outer s H E Wx hg hr tk po
    show SG _ _ _ _ _ EnT (d_command_in text)
    unfold d_command_in
    exact (sg_asg (f := .lst) (ρ' := fun words => [.d text, .d (.lst words), .un]) 1 3 ((o_split (e_nm 0) (e_str (x := Str.ofString " "))).e) (g_nm 1 nd) rfl lst_inj rfl (by decide) (fun _ => rfl) (fun words => sg_asgP (d := (.tup words)) (ρ' := [.d text, .d (.lst words), .d (.tup words)]) 2 (e_tuple (T.z_tuple) (e_nm 1)) (g_nm 2 nd) rfl rfl (sg_ifA (emb := (fun j : List D => [.d text, .d (.lst words), .d (.tup j)])) ((tw_and (t_cmp (cm_eq (u64 hr)) (e_ix (e_nm 1) (e_int)) (e_gs T.c_SET.choose_spec)) (tw_and1 (t_cmp (cm_eqI (u64 hr)) (e_lenI (T.z_len) (e_nm 1)) (e_int)))).t) rfl
    (sg_asg (f := .tup) (ρ' := fun command => [.d text, .d (.lst words), .d (.tup command)]) 2 3 (e_tupL (al_cons (e_gs T.c_SET.choose_spec) (al_cons (e_ix (e_nm 1) (e_int)) (al_cons (e_call (ps := ["text"]) ⟨ok_number_in T, T.g_number_in, T.F_number_in.kp⟩ hg (hr.mono (by decide)) tk T.B_number_in (v_cons (e_ix (e_nm 1) (e_int)) (v_nil))) (al_nil))))) (g_nm 2 nd) rfl tup_inj rfl (by decide) (fun _ => rfl) (fun command => sg_nil ⟨command, rfl, (Le.same (Le.same (Le.same (Le.nil))))⟩))
    (sg_nil ⟨words, rfl, (Le.same (Le.same (Le.same (Le.nil))))⟩)
    (fun j => sg_retT (e_if (t_truth (e_call (ps := ["value"]) ⟨ok_is_command T, T.g_is_command, T.F_is_command.kp⟩ hg (hr.mono (by decide)) tk T.B_is_command (v_cons (e_nm 2) (v_nil)))) (e_nm 2) (e_non)) rfl (fun _ => rfl)))))
end
end Q82

namespace Q82
open PySem PySem.Spec L2 PL LamX
section
variable {P : Program} {w : World} {K : PySem.W.Frag} {mg : Str → Option Value} {base : Heap} (T : Facts K mg)
include T
set_option maxHeartbeats 0 in
theorem ok_need_text : FnG P w K mg base 3 T.f_need_text T.d_need_text ["text"] (spM ((penG.wt T.tb mg).wc true) K mg 1 m_need_text) := by
  have nd := sc_need_text.nd
  refine fn_okG (m := m_need_text) (Sh := fun args => ∃ text : D, args = [.d text]) T.F_need_text sc_need_text (by decide) (fun args n P PX h => ?_) ?_
  · unfold m_need_text at h; split at h
    all_goals first | exact ⟨_, rfl⟩ | exact False.elim h
  · rintro args ⟨text, rfl⟩ cdv A outer s H E Wx hg hr tk po
    show SG _ _ _ _ _ EnT (d_need_text text)
    unfold d_need_text
    exact (sg_ifP (t_not (t_truth (e_isi .str (T.z_isinstance) (T.z_str) (by decide +kernel) (e_nm 0)))) rfl
    (sg_raise1 T.er_InvalidText rfl (hr.mono (by decide)) tk (e_non) rfl rfl)
    (sg_push (sg_nil rfl)))
end
end Q82

namespace Q82
open PySem PySem.Spec L2 PL LamX
section
variable {P : Program} {w : World} {K : PySem.W.Frag} {mg : Str → Option Value} {base : Heap} (T : Facts K mg)
include T
set_option maxHeartbeats 0 in
theorem ok_command_end : FnG P w K mg base 1 T.f_command_end T.d_command_end ["text", "start"] (spM ((penG.wt T.tb mg).wc true) K mg 2 m_command_end) := by
  have nd := sc_command_end.nd
  refine fn_okG (m := m_command_end) (Sh := fun args => ∃ text : D, ∃ startV : Int, args = [.d text, .d (.int startV)]) T.F_command_end sc_command_end (by decide) (fun args n P PX h => ?_) ?_
  · unfold m_command_end at h; split at h
    all_goals first | exact ⟨_, _, rfl⟩ | exact False.elim h
  · rintro args ⟨text, startV, rfl⟩ cdv A outer s H E Wx hg hr tk po
    show SG _ _ _ _ _ EnT (d_command_end text startV)
    unfold d_command_end
    exact (sg_asgP (d := (.int startV)) (ρ' := [.d text, .d (.int startV), .d (.int startV)]) 2 (e_nm 1) (g_nm 2 nd) rfl rfl (sg_while (emb := (fun j : Int => [.d text, .d (.int startV), .d (.int j)])) po ((tw_and (t_cmp (cm_lt) (e_nm 2) (e_lenI (T.z_len) (e_nm 0))) (tw_and1 (t_cmp (cm_notinS) (e_ix (e_nm 0) (e_nm 2)) (e_str (x := Str.ofString ";}"))))).t) (Le.same (Le.same (Le.same (Le.nil)))) (fun j => rfl)
    (fun j => sg_augIP (z := (j + 1)) (ρ' := [.d text, .d (.int startV), .d (.int (j + 1))]) 2 (e_int) nd rfl rfl (sg_nil ⟨(j + 1), rfl, (Le.same (Le.same (Le.same (Le.nil))))⟩))
    (fun j1 => sg_if ((tw_and (t_cmp (cm_lt) (e_nm 2) (e_lenI (T.z_len) (e_nm 0))) (tw_and (t_cmp (cm_eq (u64 hr)) (e_ix (e_nm 0) (e_nm 2)) (e_str (x := Str.ofString "}"))) (tw_and1 (t_cmp (cm_eq (u64 hr)) (e_ix (e_nm 0) (e_sub (e_nm 2) (e_int))) (e_str (x := Str.ofString " ")))))).t) rfl
    (sg_retP (d := (.int (j1 - 1))) (e_sub (e_nm 2) (e_int)) rfl rfl)
    (sg_push (sg_retP (d := (.int j1)) (e_nm 2) rfl rfl)))))
end
end Q82

namespace Q82
open PySem PySem.Spec L2 PL LamX
section
variable {P : Program} {w : World} {K : PySem.W.Frag} {mg : Str → Option Value} {base : Heap} (T : Facts K mg)
include T
set_option maxHeartbeats 0 in
theorem ok_item_at {k : Nat} (hk : 6 ≤ k) (recF : List SV → W D) (IH : FnG P w K mg base k T.f_program_at T.d_program_at ["text", "start", "depth"] (spM ((penG.wt T.tb mg).wc true) K mg 3 recF)) : FnG P w K mg base (k + 1) T.f_item_at T.d_item_at ["text", "start", "depth"] (spM ((penG.wt T.tb mg).wc true) K mg 3 (mm_item_at recF)) := by
  have nd := sc_item_at.nd
  refine fn_okG (m := mm_item_at recF) (Sh := fun args => ∃ text : D, ∃ startV : Int, ∃ depth : Int, args = [.d text, .d (.int startV), .d (.int depth)]) T.F_item_at sc_item_at (by decide) (fun args n P PX h => ?_) ?_
  · unfold mm_item_at at h; split at h
    all_goals first | exact ⟨_, _, _, rfl⟩ | exact False.elim h
  · rintro args ⟨text, startV, depth, rfl⟩ cdv A outer s H E Wx hg hr tk po
    show SG _ _ _ _ _ EnT (d_item_at recF text startV depth)
    unfold d_item_at
    exact (sg_if (t_cmp (cm_ne (u64 hr)) (e_sl (e_nm 0) (p_some (e_nm 1)) (p_some (e_add (e_nm 1) (e_lenI (T.z_len) (e_gs T.c_TRY_reader.choose_spec))))) (e_gs T.c_TRY_reader.choose_spec)) rfl
    (sg_asg (f := (fun x => x)) (ρ' := fun endV => [.d text, .d (.int startV), .d (.int depth), .d endV, .un, .un, .un]) 3 7 (e_call (ps := ["text", "start"]) ⟨ok_command_end T, T.g_command_end, T.F_command_end.kp⟩ hg (hr.mono (Nat.le_trans (show _ ≤ 6 by decide) hk)) tk T.B_command_end (v_cons (e_nm 0) (v_cons (e_nm 1) (v_nil)))) (g_nm 3 nd) rfl id_inj rfl (by decide) (fun _ => rfl) (fun endV => sg_asg (f := (fun x => x)) (ρ' := fun command => [.d text, .d (.int startV), .d (.int depth), .d endV, .d command, .un, .un]) 4 7 (e_call (ps := ["text"]) ⟨ok_command_in T, T.g_command_in, T.F_command_in.kp⟩ hg (hr.mono (Nat.le_trans (show _ ≤ 6 by decide) hk)) tk T.B_command_in (v_cons (e_sl (e_nm 0) (p_some (e_nm 1)) (p_some (e_asI (e_nm 3)))) (v_nil))) (g_nm 4 nd) rfl id_inj rfl (by decide) (fun _ => rfl) (fun command => sg_retT (e_if (t_cmp (cm_isnot) (e_nm 4) (e_non)) (e_tupL (al_cons (e_nm 4) (al_cons (e_nm 3) (al_nil)))) (e_non)) rfl (fun _ => rfl))))
    (sg_push (sg_asg (f := (fun x => x)) (ρ' := fun first => [.d text, .d (.int startV), .d (.int depth), .un, .un, .d first, .un]) 5 7 (e_call (ps := ["text", "start", "depth"]) ⟨IH, T.g_program_at, T.F_program_at.kp⟩ hg hr tk T.B_program_at (v_cons (e_nm 0) (v_cons (e_add (e_nm 1) (e_lenI (T.z_len) (e_gs T.c_TRY_reader.choose_spec))) (v_cons (e_add (e_nm 2) (e_int)) (v_nil))))) (g_nm 5 nd) rfl id_inj rfl (by decide) (fun _ => rfl) (fun first => sg_if ((tw_or (t_cmp (cm_is) (e_nm 5) (e_non)) (tw_or1 (t_cmp (cm_ne (u64 hr)) (e_sl (e_nm 0) (p_some (e_asI (e_ix (e_nm 5) (e_int)))) (p_some (e_add (e_asI (e_ix (e_nm 5) (e_int))) (e_lenI (T.z_len) (e_gs T.c_ELSE.choose_spec))))) (e_gs T.c_ELSE.choose_spec)))).t) rfl
    (sg_retP (d := .non) (e_non) rfl rfl)
    (sg_push (sg_asg (f := (fun x => x)) (ρ' := fun second => [.d text, .d (.int startV), .d (.int depth), .un, .un, .d first, .d second]) 6 7 (e_call (ps := ["text", "start", "depth"]) ⟨IH, T.g_program_at, T.F_program_at.kp⟩ hg hr tk T.B_program_at (v_cons (e_nm 0) (v_cons (e_add (e_asI (e_ix (e_nm 5) (e_int))) (e_lenI (T.z_len) (e_gs T.c_ELSE.choose_spec))) (v_cons (e_add (e_nm 2) (e_int)) (v_nil))))) (g_nm 6 nd) rfl id_inj rfl (by decide) (fun _ => rfl) (fun second => sg_if ((tw_or (t_cmp (cm_is) (e_nm 6) (e_non)) (tw_or1 (t_cmp (cm_ne (u64 hr)) (e_sl (e_nm 0) (p_some (e_asI (e_ix (e_nm 6) (e_int)))) (p_some (e_add (e_asI (e_ix (e_nm 6) (e_int))) (e_lenI (T.z_len) (e_gs T.c_END.choose_spec))))) (e_gs T.c_END.choose_spec)))).t) rfl
    (sg_retP (d := .non) (e_non) rfl rfl)
    (sg_push (sg_retT (e_tupL (al_cons (e_tupL (al_cons (e_str (x := Str.ofString "try")) (al_cons (e_ix (e_nm 5) (e_int)) (al_cons (e_ix (e_nm 6) (e_int)) (al_nil))))) (al_cons (e_add (e_asI (e_ix (e_nm 6) (e_int))) (e_lenI (T.z_len) (e_gs T.c_END.choose_spec))) (al_nil)))) rfl (fun _ => rfl))))))))))
end
end Q82

namespace Q82
open PySem PySem.Spec L2 PL LamX
section
variable {P : Program} {w : World} {K : PySem.W.Frag} {mg : Str → Option Value} {base : Heap} (T : Facts K mg)
include T
set_option maxHeartbeats 0 in
theorem ok_program_at : ∀ n : Nat, FnG P w K mg base (lv2 6 n) T.f_program_at T.d_program_at ["text", "start", "depth"] (spM ((penG.wt T.tb mg).wc true) K mg 3 (m_program_at n))
  | 0 => ⟨fun vs H Q E ⟨S, pen, args, n, P, PX, hl, _, _, _, _, r, _⟩ => r.len.trans hl, fun A outer s H args us vs Q E hg hr he hb r ⟨S, pen, args, n, P, PX, hl, _, _, _, _, _, q, _⟩ => False.elim q⟩
  | n + 1 => by
    have IH := ok_program_at n
    have IH_item_at := ok_item_at T (k := lv2 6 n) (Nat.le_trans (show 6 ≤ 6 by decide) (lv2_le 6 n)) (m_program_at n) IH
    have nd := sc_program_at.nd
    show FnG P w K mg base (lv2 6 n + 1 + 1) T.f_program_at T.d_program_at ["text", "start", "depth"] (spM ((penG.wt T.tb mg).wc true) K mg 3 (m_program_at (n + 1)))
    refine fn_okG (m := m_program_at (n + 1)) (Sh := fun args => ∃ text : D, ∃ startV : Int, ∃ depth : Int, args = [.d text, .d (.int startV), .d (.int depth)]) T.F_program_at sc_program_at (by decide) (fun args n0 P PX h => ?_) ?_
    · replace h : mm_program_at (m_program_at n) args n0 P PX := h
      unfold mm_program_at at h; split at h
      all_goals first | exact ⟨_, _, _, rfl⟩ | exact False.elim h
    · rintro args ⟨text, startV, depth, rfl⟩ cdv A outer s H E Wx hg hr tk po
      show SG _ _ _ _ _ EnT (d_program_at (m_program_at n) text startV depth)
      unfold d_program_at
      exact (sg_ifP (t_cmp (cm_gt) (e_nm 2) (e_gi T.c_MOST_DEPTH.choose_spec)) rfl
    (sg_retP (d := .non) (e_non) rfl rfl)
    (sg_push (sg_if (t_cmp (cm_eq (u64 hr)) (e_sl (e_nm 0) (p_some (e_nm 1)) (p_some (e_add (e_nm 1) (e_int)))) (e_gs T.c_NOTHING.choose_spec)) rfl
    (sg_retP (d := (.tup [(.tup []), (.int (startV + 1))])) (e_tupL (hz := Nat.le_of_ble_eq_true rfl) (al_cons (e_tupL (al_nil)) (al_cons (e_add (e_nm 1) (e_int)) (al_nil)))) rfl rfl)
    (sg_push (sg_ownP (d := []) (ρ' := [.d text, .d (.int startV), .d (.int depth), .own [], .un]) 3 (o_lstL (al_nil)) nd rfl rfl (sg_while (emb := (fun j : Int × List D => [.d text, .d (.int j.1), .d (.int depth), .own j.2, .un])) po (t_truth (e_bl)) (Le.same (Le.same (Le.same (Le.same (Le.same (Le.nil)))))) (fun j => rfl)
    (fun j => sg_asg (f := (fun x => x)) (ρ' := fun found => [.d text, .d (.int j.1), .d (.int depth), .own j.2, .d found]) 4 5 (e_call (ps := ["text", "start", "depth"]) ⟨IH_item_at, T.g_item_at, T.F_item_at.kp⟩ hg hr tk T.B_item_at (v_cons (e_nm 0) (v_cons (e_nm 1) (v_cons (e_nm 2) (v_nil))))) (g_nm 4 nd) rfl id_inj rfl (by decide) (fun _ => rfl) (fun found => sg_ifP (t_cmp (cm_is) (e_nm 4) (e_non)) rfl
    (sg_retP (d := .non) (e_non) rfl ⟨ret .non, rfl, rfl⟩)
    (sg_push (sg_app (f := (fun x => x)) (ρ' := fun app => [.d text, .d (.int j.1), .d (.int depth), .own (j.2 ++ [app]), .d found]) (xs := j.2) 3 5 (e_ix (e_nm 4) (e_int)) rfl rfl id_inj rfl (by decide) (fun _ => rfl) (fun app => sg_asg (f := (fun x => x)) (ρ' := fun startV1 => [.d text, .d startV1, .d (.int depth), .own (j.2 ++ [app]), .d found]) 1 5 (e_ix (e_nm 4) (e_int)) (g_nm 1 nd) rfl id_inj rfl (by decide) (fun _ => rfl) (fun startV1 => sg_if (t_cmp (cm_ne (u64 hr)) (e_sl (e_nm 0) (p_some (e_asI (e_nm 1))) (p_some (e_add (e_asI (e_nm 1)) (e_int)))) (e_str (x := Str.ofString "; "))) rfl
    (sg_retP (d := (.tup [(.tup (j.2 ++ [app])), startV1])) (e_tupL (hz := Nat.le_of_ble_eq_true rfl) (al_cons (e_tuple (T.z_tuple) (e_nm 3)) (al_cons (e_nm 1) (al_nil)))) rfl ⟨ret (.tup [(.tup (j.2 ++ [app])), startV1]), rfl, rfl⟩)
    (sg_push (sg_augI (ρ' := fun startV2 => [.d text, .d (.int startV2), .d (.int depth), .own (j.2 ++ [app]), .d found]) 1 5 (e_int) nd rfl rfl (by decide) (fun _ => rfl) (fun startV2 => sg_nil ⟨(startV2, (j.2 ++ [app])), rfl, (Le.same (Le.same (Le.same (Le.same (Le.un (Le.nil))))))⟩)))))))))
    (fun j1 => sg_nil rfl)))))))
theorem okk_program_at : FnG P w K mg base 18 T.f_program_at T.d_program_at ["text", "start", "depth"] (spM ((penG.wt T.tb mg).wc true) K mg 3 k_program_at) := by
  rw [k_program_at_eq]
  exact ok_program_at T 6
end
end Q82

namespace Q82
open PySem PySem.Spec L2 PL LamX
section
variable {P : Program} {w : World} {K : PySem.W.Frag} {mg : Str → Option Value} {base : Heap} (T : Facts K mg)
include T
set_option maxHeartbeats 0 in
theorem ok_read_program : FnG P w K mg base 19 T.f_read_program T.d_read_program ["text"] (spM ((penG.wt T.tb mg).wc true) K mg 1 m_read_program) := by
  have nd := sc_read_program.nd
  refine fn_okG (m := m_read_program) (Sh := fun args => ∃ text : D, args = [.d text]) T.F_read_program sc_read_program (by decide) (fun args n P PX h => ?_) ?_
  · unfold m_read_program at h; split at h
    all_goals first | exact ⟨_, rfl⟩ | exact False.elim h
  · rintro args ⟨text, rfl⟩ cdv A outer s H E Wx hg hr tk po
    show SG _ _ _ _ _ EnT (d_read_program text)
    unfold d_read_program
    exact (sg_expr (e_call (ps := ["text"]) ⟨ok_need_text T, T.g_need_text, T.F_need_text.kp⟩ hg (hr.mono (by decide)) tk T.B_need_text (v_cons (e_nm 0) (v_nil))) rfl (sg_asg (f := (fun x => x)) (ρ' := fun found => [.d text, .d found]) 1 2 (e_call (ps := ["text", "start", "depth"]) ⟨okk_program_at T, T.g_program_at, T.F_program_at.kp⟩ hg (hr.mono (by decide)) tk T.B_program_at (v_cons (e_nm 0) (v_cons (e_int) (v_cons (e_int) (v_nil))))) (g_nm 1 nd) rfl id_inj rfl (by decide) (fun _ => rfl) (fun found => sg_if ((tw_or (t_cmp (cm_is) (e_nm 1) (e_non)) (tw_or (t_cmp (cm_ne (u64 hr)) (e_ix (e_nm 1) (e_int)) (e_lenI (T.z_len) (e_nm 0))) (tw_or1 (t_not (t_truth (e_call (ps := ["value"]) ⟨ok_is_program T, T.g_is_program, T.F_is_program.kp⟩ hg (hr.mono (by decide)) tk T.B_is_program (v_cons (e_ix (e_nm 1) (e_int)) (v_nil)))))))).t) rfl
    (sg_raise1 T.er_InvalidText rfl (hr.mono (by decide)) tk (e_non) rfl rfl)
    (sg_push (sg_retT (e_ix (e_nm 1) (e_int)) rfl (fun _ => rfl))))))
end
end Q82

namespace Q82
open PySem PySem.Spec L2 PL LamX
section
variable {P : Program} {w : World} {K : PySem.W.Frag} {mg : Str → Option Value} {base : Heap} (T : Facts K mg)
include T
set_option maxHeartbeats 0 in
theorem ok_l_word : FnG P w K mg base 2 T.f_l_word T.d_l_word ["_law_feed_here"] (spM ((penG.wt T.tb mg).wc true) K mg 1 m_l_word) := by
  have nd := sc_l_word.nd
  refine fn_okG (m := m_l_word) (Sh := fun args => args = [.pen]) T.F_l_word sc_l_word (by decide) (fun args n P PX h => ?_) ?_
  · unfold m_l_word at h; split at h
    all_goals first | exact rfl | exact False.elim h
  · rintro args rfl cdv A outer s H E Wx hg hr tk po
    show SG _ _ _ _ _ EnT (d_l_word )
    unfold d_l_word
    exact (sg_if (t_cmp (cm_gt) (e_call (ps := ["_law_feed_here", "_law_bound"]) ⟨ok_l_take T, T.g_l_take, T.F_l_take.kp⟩ hg (hr.mono (by decide)) tk T.B_l_take (v_pen 0 (v_cons (e_int) (v_nil)))) (e_int)) rfl
    (sg_retT (e_ix (e_str (x := Str.ofString "abc")) (e_call (ps := ["_law_feed_here", "_law_bound"]) ⟨ok_l_take T, T.g_l_take, T.F_l_take.kp⟩ hg (hr.mono (by decide)) tk T.B_l_take (v_pen 0 (v_cons (e_int) (v_nil))))) rfl (fun _ => rfl))
    (sg_push (sg_asg (f := .int) (ρ' := fun many => [.pen, .d (.int many), .un]) 1 3 (e_add (e_int) (e_call (ps := ["_law_feed_here", "_law_bound"]) ⟨ok_l_take T, T.g_l_take, T.F_l_take.kp⟩ hg (hr.mono (by decide)) tk T.B_l_take (v_pen 0 (v_cons (e_int) (v_nil))))) (g_nm 1 nd) rfl int_inj rfl (by decide) (fun _ => rfl) (fun many => sg_retT (e_join (e_str (x := Str.ofString "")) ((o_lcQ (own := [("_law_k", 2)]) (t := (.nm 2)) (f := D.int) (mu := ret) (ee := (fun a ρ => ρ.set 2 (.d (.int a)))) (fun _ => rfl) (fun x ρ => setT_1 2 D.int x ρ) rfl nd (w_rng1Z (T.z_range) (e_nm 1)) (blkOk_by (own := [("_law_k", 2)]) (N := sc_l_word_N) (sc := defScope s_l_word) (by decide +kernel)) (fun _ _ _ _ _ => g_nm 2 nd) (fun _ _ _ _ _ => ts_nil) (fun _ _ _ _ _ => e_ix (e_str (x := Str.ofString "abcdefghijklmnopqrstuvwxyz")) (e_call (ps := ["_law_feed_here", "_law_bound"]) ⟨ok_l_take T, T.g_l_take, T.F_l_take.kp⟩ hg (hr.mono (by decide)) L2.takes0 T.B_l_take (v_pen 0 (v_cons (e_int) (v_nil)))))).e)) rfl (fun _ => rfl)))))
end
end Q82

namespace Q82
open PySem PySem.Spec L2 PL LamX
section
variable {P : Program} {w : World} {K : PySem.W.Frag} {mg : Str → Option Value} {base : Heap} (T : Facts K mg)
include T
set_option maxHeartbeats 0 in
theorem ok_l_number : FnG P w K mg base 2 T.f_l_number T.d_l_number ["_law_feed_here"] (spM ((penG.wt T.tb mg).wc true) K mg 1 m_l_number) := by
  have nd := sc_l_number.nd
  refine fn_okG (m := m_l_number) (Sh := fun args => args = [.pen]) T.F_l_number sc_l_number (by decide) (fun args n P PX h => ?_) ?_
  · unfold m_l_number at h; split at h
    all_goals first | exact rfl | exact False.elim h
  · rintro args rfl cdv A outer s H E Wx hg hr tk po
    show SG _ _ _ _ _ EnT (d_l_number )
    unfold d_l_number
    exact (sg_asg (f := .int) (ρ' := fun near => [.pen, .d (.int near)]) 1 2 (e_call (ps := ["_law_feed_here", "_law_bound"]) ⟨ok_l_take T, T.g_l_take, T.F_l_take.kp⟩ hg (hr.mono (by decide)) tk T.B_l_take (v_pen 0 (v_cons (e_int) (v_nil)))) (g_nm 1 nd) rfl int_inj rfl (by decide) (fun _ => rfl) (fun near => sg_retT (e_ix ((o_lstL (al_cons (e_sub (e_nm 1) (e_int)) (al_cons (e_sub (e_nm 1) (e_int)) (al_cons (e_sub (e_powC (v := 1000000000000000000) (e_int) (e_int)) (e_nm 1)) (al_cons (e_sub (e_nm 1) (e_powC (v := 1000000000000000000) (e_int) (e_int))) (al_nil)))))).e) (e_call (ps := ["_law_feed_here", "_law_bound"]) ⟨ok_l_take T, T.g_l_take, T.F_l_take.kp⟩ hg (hr.mono (by decide)) tk T.B_l_take (v_pen 0 (v_cons (e_int) (v_nil))))) rfl (fun _ => rfl)))
end
end Q82

namespace Q82
open PySem PySem.Spec L2 PL LamX
section
variable {P : Program} {w : World} {K : PySem.W.Frag} {mg : Str → Option Value} {base : Heap} (T : Facts K mg)
include T
set_option maxHeartbeats 0 in
theorem ok_l_command : FnG P w K mg base 3 T.f_l_command T.d_l_command ["_law_feed_here", "_law_known"] (spM ((penG.wt T.tb mg).wc true) K mg 2 m_l_command) := by
  have nd := sc_l_command.nd
  refine fn_okG (m := m_l_command) (Sh := fun args => ∃ known : D, args = [.pen, .d known]) T.F_l_command sc_l_command (by decide) (fun args n P PX h => ?_) ?_
  · unfold m_l_command at h; split at h
    all_goals first | exact ⟨_, rfl⟩ | exact False.elim h
  · rintro args ⟨known, rfl⟩ cdv A outer s H E Wx hg hr tk po
    show SG _ _ _ _ _ EnT (d_l_command known)
    unfold d_l_command
    exact (sg_asg (f := (fun x => x)) (ρ' := fun label => [.pen, .d known, .d label, .un]) 2 4 (e_call (ps := ["_law_feed_here"]) ⟨ok_l_word T, T.g_l_word, T.F_l_word.kp⟩ hg (hr.mono (by decide)) tk T.B_l_word (v_pen 0 (v_nil))) (g_nm 2 nd) rfl id_inj rfl (by decide) (fun _ => rfl) (fun label => sg_asg (f := .int) (ρ' := fun way => [.pen, .d known, .d label, .d (.int way)]) 3 4 (e_call (ps := ["_law_feed_here", "_law_bound"]) ⟨ok_l_take T, T.g_l_take, T.F_l_take.kp⟩ hg (hr.mono (by decide)) tk T.B_l_take (v_pen 0 (v_cons (e_int) (v_nil)))) (g_nm 3 nd) rfl int_inj rfl (by decide) (fun _ => rfl) (fun way => sg_ifA (emb := (fun j : D => [.pen, .d known, .d j, .d (.int way)])) ((tw_and (t_cmp (cm_ne (u64 hr)) (e_nm 1) ((o_lstL (al_nil)).e)) (tw_and1 (t_cmp (cm_gt) (e_call (ps := ["_law_feed_here", "_law_bound"]) ⟨ok_l_take T, T.g_l_take, T.F_l_take.kp⟩ hg (hr.mono (by decide)) tk T.B_l_take (v_pen 0 (v_cons (e_int) (v_nil)))) (e_int)))).t) rfl
    (sg_asg (f := (fun x => x)) (ρ' := fun label1 => [.pen, .d known, .d label1, .d (.int way)]) 2 4 (e_ix (e_nm 1) (e_call (ps := ["_law_feed_here", "_law_bound"]) ⟨ok_l_take T, T.g_l_take, T.F_l_take.kp⟩ hg (hr.mono (by decide)) tk T.B_l_take (v_pen 0 (v_cons (e_lenI (T.z_len) (e_nm 1)) (v_nil))))) (g_nm 2 nd) rfl id_inj rfl (by decide) (fun _ => rfl) (fun label1 => sg_nil ⟨label1, rfl, (Le.same (Le.same (Le.same (Le.same (Le.nil)))))⟩))
    (sg_nil ⟨label, rfl, (Le.same (Le.same (Le.same (Le.same (Le.nil)))))⟩)
    (fun j => sg_ifP (t_cmp (cm_lt) (e_nm 3) (e_int)) rfl
    (sg_retT (e_tupL (al_cons (e_str (x := Str.ofString "set")) (al_cons (e_call (ps := ["_law_feed_here"]) ⟨ok_l_word T, T.g_l_word, T.F_l_word.kp⟩ hg (hr.mono (by decide)) tk T.B_l_word (v_pen 0 (v_nil))) (al_cons (e_call (ps := ["_law_feed_here"]) ⟨ok_l_number T, T.g_l_number, T.F_l_number.kp⟩ hg (hr.mono (by decide)) tk T.B_l_number (v_pen 0 (v_nil))) (al_nil))))) rfl (fun _ => rfl))
    (sg_push (sg_ifP (t_cmp (cm_eqI (u64 hr)) (e_nm 3) (e_int)) rfl
    (sg_retT (e_tupL (al_cons (e_str (x := Str.ofString "del")) (al_cons (e_call (ps := ["_law_feed_here"]) ⟨ok_l_word T, T.g_l_word, T.F_l_word.kp⟩ hg (hr.mono (by decide)) tk T.B_l_word (v_pen 0 (v_nil))) (al_nil)))) rfl (fun _ => rfl))
    (sg_push (sg_retT (e_tupL (al_cons (e_ix ((o_lstL (al_cons (e_str (x := Str.ofString "mark")) (al_cons (e_str (x := Str.ofString "mark")) (al_cons (e_str (x := Str.ofString "back")) (al_cons (e_str (x := Str.ofString "back")) (al_cons (e_str (x := Str.ofString "keep")) (al_nil))))))).e) (e_sub (e_nm 3) (e_int))) (al_cons (e_nm 2) (al_nil)))) rfl (fun _ => rfl)))))))))
end
end Q82

namespace Q82
open PySem PySem.Spec L2 PL LamX
section
variable {P : Program} {w : World} {K : PySem.W.Frag} {mg : Str → Option Value} {base : Heap} (T : Facts K mg)
include T
set_option maxHeartbeats 0 in
theorem ok_l_is_word : FnG P w K mg base 1 T.f_l_is_word T.d_l_is_word ["_law_thing"] (spM ((penG.wt T.tb mg).wc true) K mg 1 m_l_is_word) := by
  have nd := sc_l_is_word.nd
  refine fn_okG (m := m_l_is_word) (Sh := fun args => ∃ thing : D, args = [.d thing]) T.F_l_is_word sc_l_is_word (by decide) (fun args n P PX h => ?_) ?_
  · unfold m_l_is_word at h; split at h
    all_goals first | exact ⟨_, rfl⟩ | exact False.elim h
  · rintro args ⟨thing, rfl⟩ cdv A outer s H E Wx hg hr tk po
    show SG _ _ _ _ _ EnT (d_l_is_word thing)
    unfold d_l_is_word
    exact (sg_if ((tw_or (t_not (t_truth (e_isi .str (T.z_isinstance) (T.z_str) (by decide +kernel) (e_nm 0)))) (tw_or1 (t_not (t_chain (cm_le) (cm_le) (e_int) (e_lenI (T.z_len) (e_nm 0)) (e_int))))).t) rfl
    (sg_retP (d := (.bl false)) (e_bl) rfl rfl)
    (sg_push (sg_retT (e_cmp (cm_eq (u64 hr)) ((o_lcQ (own := [("_law_sign", 1)]) (t := (.nm 1)) (f := chD) (mu := ret) (ee := (fun a ρ => ρ.set 1 (.d (chD a)))) (fun _ => rfl) (fun x ρ => setT_1 1 chD x ρ) rfl nd (w_strZ (e_nm 0)) (blkOk_by (own := [("_law_sign", 1)]) (N := sc_l_is_word_N) (sc := defScope s_l_is_word) (by decide +kernel)) (fun _ _ _ _ _ => g_nm 1 nd) (fun _ _ _ _ _ => ts_one (t_not (t_chain (cm_le) (cm_le) (e_str (x := Str.ofString "a")) (e_nm 1) (e_str (x := Str.ofString "z"))))) (fun _ _ _ _ _ => e_nm 1)).e) ((o_lstL (al_nil)).e)) rfl (fun _ => rfl))))
end
end Q82

namespace Q82
open PySem PySem.Spec L2 PL LamX
section
variable {P : Program} {w : World} {K : PySem.W.Frag} {mg : Str → Option Value} {base : Heap} (T : Facts K mg)
include T
set_option maxHeartbeats 0 in
theorem ok_l_is_number : FnG P w K mg base 1 T.f_l_is_number T.d_l_is_number ["_law_thing"] (spM ((penG.wt T.tb mg).wc true) K mg 1 m_l_is_number) := by
  have nd := sc_l_is_number.nd
  refine fn_okG (m := m_l_is_number) (Sh := fun args => ∃ thing : D, args = [.d thing]) T.F_l_is_number sc_l_is_number (by decide) (fun args n P PX h => ?_) ?_
  · unfold m_l_is_number at h; split at h
    all_goals first | exact ⟨_, rfl⟩ | exact False.elim h
  · rintro args ⟨thing, rfl⟩ cdv A outer s H E Wx hg hr tk po
    show SG _ _ _ _ _ EnT (d_l_is_number thing)
    unfold d_l_is_number
    exact (sg_retT (e_and (e_isi .int (T.z_isinstance) (T.z_int) (by decide +kernel) (e_nm 0)) (e_and (e_not (e_isi .bool (T.z_isinstance) (T.z_bool) (by decide +kernel) (e_nm 0))) (e_one (e_cmp (cm_le) (e_asI (e_abs (T.z_abs) (e_nm 0))) (e_powC (v := 1000000000000000000) (e_int) (e_int)))))) rfl (fun _ => rfl))
end
end Q82

namespace Q82
open PySem PySem.Spec L2 PL LamX
section
variable {P : Program} {w : World} {K : PySem.W.Frag} {mg : Str → Option Value} {base : Heap} (T : Facts K mg)
include T
set_option maxHeartbeats 0 in
theorem ok_l_is_command : FnG P w K mg base 2 T.f_l_is_command T.d_l_is_command ["_law_thing"] (spM ((penG.wt T.tb mg).wc true) K mg 1 m_l_is_command) := by
  have nd := sc_l_is_command.nd
  refine fn_okG (m := m_l_is_command) (Sh := fun args => ∃ thing : D, args = [.d thing]) T.F_l_is_command sc_l_is_command (by decide) (fun args n P PX h => ?_) ?_
  · unfold m_l_is_command at h; split at h
    all_goals first | exact ⟨_, rfl⟩ | exact False.elim h
  · rintro args ⟨thing, rfl⟩ cdv A outer s H E Wx hg hr tk po
    show SG _ _ _ _ _ EnT (d_l_is_command thing)
    unfold d_l_is_command
    exact (sg_if ((tw_or (t_not (t_truth (e_isi .tup (T.z_isinstance) (T.z_tuple) (by decide +kernel) (e_nm 0)))) (tw_or (t_cmp (cm_notin) (e_lenI (T.z_len) (e_nm 0)) (e_tupL (al_cons (e_int) (al_cons (e_int) (al_nil))))) (tw_or1 (t_not (t_truth (e_isi .str (T.z_isinstance) (T.z_str) (by decide +kernel) (e_ix (e_nm 0) (e_int)))))))).t) rfl
    (sg_retP (d := (.bl false)) (e_bl) rfl rfl)
    (sg_push (sg_if (t_cmp (cm_eq (u64 hr)) (e_ix (e_nm 0) (e_int)) (e_str (x := Str.ofString "set"))) rfl
    (sg_retT (e_and (e_cmp (cm_eqI (u64 hr)) (e_lenI (T.z_len) (e_nm 0)) (e_int)) (e_and (e_call (ps := ["_law_thing"]) ⟨ok_l_is_word T, T.g_l_is_word, T.F_l_is_word.kp⟩ hg (hr.mono (by decide)) tk T.B_l_is_word (v_cons (e_ix (e_nm 0) (e_int)) (v_nil))) (e_one (e_call (ps := ["_law_thing"]) ⟨ok_l_is_number T, T.g_l_is_number, T.F_l_is_number.kp⟩ hg (hr.mono (by decide)) tk T.B_l_is_number (v_cons (e_ix (e_nm 0) (e_int)) (v_nil)))))) rfl (fun _ => rfl))
    (sg_push (sg_retT (e_and (e_cmp (cm_eqI (u64 hr)) (e_lenI (T.z_len) (e_nm 0)) (e_int)) (e_and (e_cmp (cm_in) (e_ix (e_nm 0) (e_int)) (e_tupL (al_cons (e_str (x := Str.ofString "del")) (al_cons (e_str (x := Str.ofString "mark")) (al_cons (e_str (x := Str.ofString "back")) (al_cons (e_str (x := Str.ofString "keep")) (al_nil))))))) (e_one (e_call (ps := ["_law_thing"]) ⟨ok_l_is_word T, T.g_l_is_word, T.F_l_is_word.kp⟩ hg (hr.mono (by decide)) tk T.B_l_is_word (v_cons (e_ix (e_nm 0) (e_int)) (v_nil)))))) rfl (fun _ => rfl))))))
end
end Q82

namespace Q82
open PySem PySem.Spec L2 PL LamX
section
variable {P : Program} {w : World} {K : PySem.W.Frag} {mg : Str → Option Value} {base : Heap} (T : Facts K mg)
include T
set_option maxHeartbeats 0 in
theorem ok_l_shown : FnG P w K mg base 1 T.f_l_shown T.d_l_shown ["_law_row"] (spM ((penG.wt T.tb mg).wc true) K mg 1 m_l_shown) := by
  have nd := sc_l_shown.nd
  refine fn_okG (m := m_l_shown) (Sh := fun args => ∃ row : D, args = [.d row]) T.F_l_shown sc_l_shown (by decide) (fun args n P PX h => ?_) ?_
  · unfold m_l_shown at h; split at h
    all_goals first | exact ⟨_, rfl⟩ | exact False.elim h
  · rintro args ⟨row, rfl⟩ cdv A outer s H E Wx hg hr tk po
    show SG _ _ _ _ _ EnT (d_l_shown row)
    unfold d_l_shown
    exact (sg_retT (e_if (t_cmp (cm_gt) (e_lenI (T.z_len) (e_nm 0)) (e_int)) (e_join (e_str (x := Str.ofString "; ")) ((o_lcQ (own := [("_law_one", 1)]) (t := (.nm 1)) (f := (fun y : D => y)) (mu := ret) (ee := (fun a ρ => ρ.set 1 (.d a))) seqT_map (fun x ρ => setT_1 1 (fun y : D => y) x ρ) rfl nd (w_seqZ (e_nm 0)) (blkOk_by (own := [("_law_one", 1)]) (N := sc_l_shown_N) (sc := defScope s_l_shown) (by decide +kernel)) (fun _ _ _ _ _ => g_nm 1 nd) (fun _ _ _ _ _ => ts_nil) (fun _ _ _ _ _ => e_join (e_str (x := Str.ofString " ")) ((o_lcQ (own := [("_law_part", 2)]) (t := (.nm 2)) (f := (fun y : D => y)) (mu := ret) (ee := (fun a ρ => ρ.set 2 (.d a))) seqT_map (fun x ρ => setT_1 2 (fun y : D => y) x ρ) rfl nd (w_seqZ (e_nm 1)) (blkOk_by (own := [("_law_part", 2)]) (N := sc_l_shown_N) (sc := _) (by kernel_rfl)) (fun _ _ _ _ _ => g_nm 2 nd) (fun _ _ _ _ _ => ts_nil) (fun _ _ _ _ _ => e_strOf (T.z_str) (e_nm 2))).e))).e)) (e_str (x := Str.ofString "-"))) rfl (fun _ => rfl))
end
end Q82

namespace Q82
open PySem PySem.Spec L2 PL LamX
section
variable {P : Program} {w : World} {K : PySem.W.Frag} {mg : Str → Option Value} {base : Heap} (T : Facts K mg)
include T
set_option maxHeartbeats 0 in
theorem ok_l_number_in : FnG P w K mg base 1 T.f_l_number_in T.d_l_number_in ["_law_part"] (spM ((penG.wt T.tb mg).wc true) K mg 1 m_l_number_in) := by
  have nd := sc_l_number_in.nd
  refine fn_okG (m := m_l_number_in) (Sh := fun args => ∃ part : D, args = [.d part]) T.F_l_number_in sc_l_number_in (by decide) (fun args n P PX h => ?_) ?_
  · unfold m_l_number_in at h; split at h
    all_goals first | exact ⟨_, rfl⟩ | exact False.elim h
  · rintro args ⟨part, rfl⟩ cdv A outer s H E Wx hg hr tk po
    show SG _ _ _ _ _ EnT (d_l_number_in part)
    unfold d_l_number_in
    exact (sg_asg (f := (fun x => x)) (ρ' := fun digits => [.d part, .d digits, .un]) 1 3 (e_sl (e_nm 0) (p_some (e_toint (T.z_int) (e_cmp (cm_eq (u64 hr)) (e_sl (e_nm 0) (p_none) (p_some (e_int))) (e_str (x := Str.ofString "-"))))) (p_none)) (g_nm 1 nd) rfl id_inj rfl (by decide) (fun _ => rfl) (fun digits => sg_if ((tw_or (t_cmp (cm_eq (u64 hr)) (e_nm 1) (e_str (x := Str.ofString ""))) (tw_or (t_cmp (cm_ne (u64 hr)) ((o_lcQ (own := [("_law_sign", 2)]) (t := (.nm 2)) (f := chD) (mu := ret) (ee := (fun a ρ => ρ.set 2 (.d (chD a)))) (fun _ => rfl) (fun x ρ => setT_1 2 chD x ρ) rfl nd (w_strZ (e_nm 1)) (blkOk_by (own := [("_law_sign", 2)]) (N := sc_l_number_in_N) (sc := defScope s_l_number_in) (by decide +kernel)) (fun _ _ _ _ _ => g_nm 2 nd) (fun _ _ _ _ _ => ts_one (t_cmp (cm_notinS) (e_nm 2) (e_str (x := Str.ofString "0123456789")))) (fun _ _ _ _ _ => e_nm 2)).e) ((o_lstL (al_nil)).e)) (tw_or1 (t_cmp (cm_gt) (e_lenI (T.z_len) (e_nm 1)) (e_int))))).t) rfl
    (sg_retP (d := .non) (e_non) rfl rfl)
    (sg_push (sg_if ((tw_and (t_cmp (cm_eq (u64 hr)) (e_ix (e_nm 1) (e_int)) (e_str (x := Str.ofString "0"))) (tw_and1 (t_cmp (cm_ne (u64 hr)) (e_nm 0) (e_str (x := Str.ofString "0"))))).t) rfl
    (sg_retP (d := .non) (e_non) rfl rfl)
    (sg_push (sg_retT (e_intT (T.z_int) (e_nm 0)) rfl (fun _ => rfl)))))))
end
end Q82

namespace Q82
open PySem PySem.Spec L2 PL LamX
section
variable {P : Program} {w : World} {K : PySem.W.Frag} {mg : Str → Option Value} {base : Heap} (T : Facts K mg)
include T
set_option maxHeartbeats 0 in
theorem ok_l_command_in : FnG P w K mg base 3 T.f_l_command_in T.d_l_command_in ["_law_words"] (spM ((penG.wt T.tb mg).wc true) K mg 1 m_l_command_in) := by
  have nd := sc_l_command_in.nd
  refine fn_okG (m := m_l_command_in) (Sh := fun args => ∃ words : D, args = [.d words]) T.F_l_command_in sc_l_command_in (by decide) (fun args n P PX h => ?_) ?_
  · unfold m_l_command_in at h; split at h
    all_goals first | exact ⟨_, rfl⟩ | exact False.elim h
  · rintro args ⟨words, rfl⟩ cdv A outer s H E Wx hg hr tk po
    show SG _ _ _ _ _ EnT (d_l_command_in words)
    unfold d_l_command_in
    exact (sg_asg (f := (fun x => x)) (ρ' := fun found => [.d words, .d found]) 1 2 (e_tuple (T.z_tuple) (e_nm 0)) (g_nm 1 nd) rfl id_inj rfl (by decide) (fun _ => rfl) (fun found => sg_ifA (emb := (fun j : D => [.d words, .d j])) ((tw_and (t_cmp (cm_eqI (u64 hr)) (e_lenI (T.z_len) (e_nm 0)) (e_int)) (tw_and1 (t_cmp (cm_eq (u64 hr)) (e_ix (e_nm 0) (e_int)) (e_str (x := Str.ofString "set"))))).t) rfl
    (sg_asg (f := .tup) (ρ' := fun found1 => [.d words, .d (.tup found1)]) 1 2 (e_tupL (al_cons (e_str (x := Str.ofString "set")) (al_cons (e_ix (e_nm 0) (e_int)) (al_cons (e_call (ps := ["_law_part"]) ⟨ok_l_number_in T, T.g_l_number_in, T.F_l_number_in.kp⟩ hg (hr.mono (by decide)) tk T.B_l_number_in (v_cons (e_ix (e_nm 0) (e_int)) (v_nil))) (al_nil))))) (g_nm 1 nd) rfl tup_inj rfl (by decide) (fun _ => rfl) (fun found1 => sg_nil ⟨(.tup found1), rfl, (Le.same (Le.same (Le.nil)))⟩))
    (sg_nil ⟨found, rfl, (Le.same (Le.same (Le.nil)))⟩)
    (fun j => sg_retT (e_if (t_truth (e_call (ps := ["_law_thing"]) ⟨ok_l_is_command T, T.g_l_is_command, T.F_l_is_command.kp⟩ hg (hr.mono (by decide)) tk T.B_l_is_command (v_cons (e_nm 1) (v_nil)))) (e_nm 1) (e_non)) rfl (fun _ => rfl))))
end
end Q82

namespace Q82
open PySem PySem.Spec L2 PL LamX
section
variable {P : Program} {w : World} {K : PySem.W.Frag} {mg : Str → Option Value} {base : Heap} (T : Facts K mg)
include T
set_option maxHeartbeats 0 in
theorem ok_l_program : ∀ n : Nat, FnG P w K mg base (4 + n) T.f_l_program T.d_l_program ["_law_feed_here", "_law_room", "_law_depth"] (spM ((penG.wt T.tb mg).wc true) K mg 3 (m_l_program n))
  | 0 => ⟨fun vs H Q E ⟨S, pen, args, n, P, PX, hl, _, _, _, _, r, _⟩ => r.len.trans hl, fun A outer s H args us vs Q E hg hr he hb r ⟨S, pen, args, n, P, PX, hl, _, _, _, _, _, q, _⟩ => False.elim q⟩
  | n + 1 => by
    have IH := ok_l_program n
    have nd := sc_l_program.nd
    refine fn_okG (m := m_l_program (n + 1)) (Sh := fun args => ∃ room : Addr, ∃ depth : Int, args = [.pen, .o room, .d (.int depth)]) T.F_l_program sc_l_program (by decide) (fun args n0 P PX h => ?_) ?_
    · replace h : mm_l_program (m_l_program n) args n0 P PX := h
      unfold mm_l_program at h; split at h
      all_goals first | exact ⟨_, _, rfl⟩ | exact False.elim h
    · rintro args ⟨room, depth, rfl⟩ cdv A outer s H E Wx hg hr tk po
      show SG _ _ _ _ _ EnT (d_l_program (m_l_program n) room depth)
      unfold d_l_program
      exact (sg_ownP (d := []) (ρ' := [.pen, .o room, .d (.int depth), .own [], .un, .un]) 3 (o_lstL (al_nil)) nd rfl rfl (sg_forI (t := (.nm 4)) (f := D.int) (emb := (fun j : List D => [.pen, .o room, .d (.int depth), .own j, .un, .un])) (e := (fun a j => [.pen, .o room, .d (.int depth), .own j, .d (.int a), .un])) po rfl (w_rng1Z (T.z_range) (e_call (ps := ["_law_feed_here", "_law_bound"]) ⟨ok_l_take T, T.g_l_take, T.F_l_take.kp⟩ hg (hr.mono (Nat.le_trans (show _ ≤ 4 by decide) (Nat.le_add_right 4 _))) tk T.B_l_take (v_pen 0 (v_cons (e_asI (e_ix ((o_lstL (hz := Nat.le_of_ble_eq_true rfl) (al_cons (e_int) (al_cons (e_int) (al_cons (e_int) (al_cons (e_int) (al_nil)))))).e) (e_nm 2))) (v_nil))))) (g_nm 4 nd) rfl (fun _ => rfl) int_inj (Le.same (Le.same (Le.same (Le.same (Le.same (Le.same (Le.nil))))))) (fun x j => rfl) (fun j a b h => int_inj _ _ (by have q := congrArg (·[4]?) h; exact SV.d.inj (Option.some.inj q)))
    (fun turn j => sg_if ((tw_and (t_cmp (cm_lt) (e_nm 2) (e_int)) (tw_and (t_cmp (cm_gt) (e_asI (e_ixObj 1 (e_int))) (e_int)) (tw_and1 (t_cmp (cm_eqI (u64 hr)) (e_call (ps := ["_law_feed_here", "_law_bound"]) ⟨ok_l_take T, T.g_l_take, T.F_l_take.kp⟩ hg (hr.mono (Nat.le_trans (show _ ≤ 4 by decide) (Nat.le_add_right 4 _))) tk T.B_l_take (v_pen 0 (v_cons (e_int) (v_nil)))) (e_int))))).t) rfl
    (sg_setObj 1 (e_int) (e_sub (e_asI (e_ixObj 1 (e_int))) (e_int)) rfl rfl (sg_asg (f := (fun x => x)) (ρ' := fun first => [.pen, .o room, .d (.int depth), .own j, .d (.int turn), .d first]) 5 6 (e_call (ps := ["_law_feed_here", "_law_room", "_law_depth"]) ⟨IH, T.g_l_program, T.F_l_program.kp⟩ hg hr tk T.B_l_program (v_pen 0 (v_obj 1 (v_cons (e_add (e_nm 2) (e_int)) (v_nil))))) (g_nm 5 nd) rfl id_inj rfl (by decide) (fun _ => rfl) (fun first => sg_app (f := .tup) (ρ' := fun app => [.pen, .o room, .d (.int depth), .own (j ++ [(.tup app)]), .d (.int turn), .d first]) (xs := j) 3 6 (e_tupL (hz := Nat.le_of_ble_eq_true rfl) (al_cons (e_str (x := Str.ofString "try")) (al_cons (e_nm 5) (al_cons (e_call (ps := ["_law_feed_here", "_law_room", "_law_depth"]) ⟨IH, T.g_l_program, T.F_l_program.kp⟩ hg hr tk T.B_l_program (v_pen 0 (v_obj 1 (v_cons (e_add (e_nm 2) (e_int)) (v_nil))))) (al_nil))))) rfl rfl tup_inj rfl (by decide) (fun _ => rfl) (fun app => sg_push (sg_nil ⟨(j ++ [(.tup app)]), rfl, (Le.same (Le.same (Le.same (Le.same (Le.un (Le.un (Le.nil)))))))⟩)))))
    (sg_if (t_cmp (cm_gt) (e_asI (e_ixObj 1 (e_int))) (e_int)) rfl
    (sg_setObj 1 (e_int) (e_sub (e_asI (e_ixObj 1 (e_int))) (e_int)) rfl rfl (sg_app (f := (fun x => x)) (ρ' := fun app1 => [.pen, .o room, .d (.int depth), .own (j ++ [app1]), .d (.int turn), .un]) (xs := j) 3 6 (e_call (ps := ["_law_feed_here", "_law_known"]) ⟨ok_l_command T, T.g_l_command, T.F_l_command.kp⟩ hg (hr.mono (Nat.le_trans (show _ ≤ 4 by decide) (Nat.le_add_right 4 _))) tk T.B_l_command (v_pen 0 (v_cons ((o_lstL (al_nil)).e) (v_nil)))) rfl rfl id_inj rfl (by decide) (fun _ => rfl) (fun app1 => sg_push (sg_push (sg_nil ⟨(j ++ [app1]), rfl, (Le.same (Le.same (Le.same (Le.same (Le.un (Le.same (Le.nil)))))))⟩)))))
    (sg_push (sg_push (sg_nil ⟨j, rfl, (Le.same (Le.same (Le.same (Le.same (Le.un (Le.same (Le.nil)))))))⟩)))))
    (fun j1 => sg_retP (d := (.tup j1)) (e_tuple (T.z_tuple) (e_nm 3)) rfl rfl)))
theorem okk_l_program : FnG P w K mg base 9 T.f_l_program T.d_l_program ["_law_feed_here", "_law_room", "_law_depth"] (spM ((penG.wt T.tb mg).wc true) K mg 3 k_l_program) := by
  rw [k_l_program_eq]
  exact ok_l_program T 5
end
end Q82

namespace Q82
open PySem PySem.Spec L2 PL LamX
section
variable {P : Program} {w : World} {K : PySem.W.Frag} {mg : Str → Option Value} {base : Heap} (T : Facts K mg)
include T
set_option maxHeartbeats 0 in
theorem ok_l_bent_text : FnG P w K mg base 2 T.f_l_bent_text T.d_l_bent_text ["_law_feed_here", "_law_whole"] (spM ((penG.wt T.tb mg).wc true) K mg 2 m_l_bent_text) := by
  have nd := sc_l_bent_text.nd
  refine fn_okG (m := m_l_bent_text) (Sh := fun args => ∃ whole : D, args = [.pen, .d whole]) T.F_l_bent_text sc_l_bent_text (by decide) (fun args n P PX h => ?_) ?_
  · unfold m_l_bent_text at h; split at h
    all_goals first | exact ⟨_, rfl⟩ | exact False.elim h
  · rintro args ⟨whole, rfl⟩ cdv A outer s H E Wx hg hr tk po
    show SG _ _ _ _ _ EnT (d_l_bent_text whole)
    unfold d_l_bent_text
    exact (sg_asg (f := .int) (ρ' := fun spot => [.pen, .d whole, .d (.int spot), .un, .un, .un, .un]) 2 7 (e_call (ps := ["_law_feed_here", "_law_bound"]) ⟨ok_l_take T, T.g_l_take, T.F_l_take.kp⟩ hg (hr.mono (by decide)) tk T.B_l_take (v_pen 0 (v_cons (e_add (e_lenI (T.z_len) (e_nm 1)) (e_int)) (v_nil)))) (g_nm 2 nd) rfl int_inj rfl (by decide) (fun _ => rfl) (fun spot => sg_asg (f := (fun x => x)) (ρ' := fun sign => [.pen, .d whole, .d (.int spot), .d sign, .un, .un, .un]) 3 7 (e_ix (e_str (x := Str.ofString " ;-0a:={}\n9zA")) (e_call (ps := ["_law_feed_here", "_law_bound"]) ⟨ok_l_take T, T.g_l_take, T.F_l_take.kp⟩ hg (hr.mono (by decide)) tk T.B_l_take (v_pen 0 (v_cons (e_int) (v_nil))))) (g_nm 3 nd) rfl id_inj rfl (by decide) (fun _ => rfl) (fun sign => sg_asg (f := .lst) (ρ' := fun parts => [.pen, .d whole, .d (.int spot), .d sign, .d (.lst parts), .un, .un]) 4 7 ((o_split (e_nm 1) (e_str (x := Str.ofString " "))).e) (g_nm 4 nd) rfl lst_inj rfl (by decide) (fun _ => rfl) (fun parts => sg_asg (f := .int) (ρ' := fun place => [.pen, .d whole, .d (.int spot), .d sign, .d (.lst parts), .d (.int place), .un]) 5 7 (e_call (ps := ["_law_feed_here", "_law_bound"]) ⟨ok_l_take T, T.g_l_take, T.F_l_take.kp⟩ hg (hr.mono (by decide)) tk T.B_l_take (v_pen 0 (v_cons (e_lenI (T.z_len) (e_nm 4)) (v_nil)))) (g_nm 5 nd) rfl int_inj rfl (by decide) (fun _ => rfl) (fun place => sg_asg (f := .lst) (ρ' := fun someV => [.pen, .d whole, .d (.int spot), .d sign, .d (.lst parts), .d (.int place), .d (.lst someV)]) 6 7 ((o_lstL (al_cons (e_add (e_add (e_sl (e_nm 1) (p_none) (p_some (e_nm 2))) (e_nm 3)) (e_sl (e_nm 1) (p_some (e_nm 2)) (p_none))) (al_cons (e_add (e_add (e_sl (e_nm 1) (p_none) (p_some (e_nm 2))) (e_nm 3)) (e_sl (e_nm 1) (p_some (e_add (e_nm 2) (e_int))) (p_none))) (al_cons (e_add (e_sl (e_nm 1) (p_none) (p_some (e_nm 2))) (e_sl (e_nm 1) (p_some (e_add (e_nm 2) (e_int))) (p_none))) (al_nil))))).e) (g_nm 6 nd) rfl lst_inj rfl (by decide) (fun _ => rfl) (fun someV => sg_asg (f := .lst) (ρ' := fun someV1 => [.pen, .d whole, .d (.int spot), .d sign, .d (.lst parts), .d (.int place), .d (.lst someV1)]) 6 7 (e_add (e_nm 6) ((o_lstL (al_cons (e_sl (e_nm 1) (p_none) (p_some (e_nm 2))) (al_cons (e_sl (e_nm 1) (p_some (e_nm 2)) (p_none)) (al_cons (e_add (e_nm 1) (e_nm 3)) (al_cons (e_join (e_str (x := Str.ofString " ")) (e_add (e_sl (e_nm 4) (p_none) (p_some (e_nm 5))) (e_sl (e_nm 4) (p_some (e_add (e_nm 5) (e_int))) (p_none)))) (al_nil)))))).e)) (g_nm 6 nd) rfl lst_inj rfl (by decide) (fun _ => rfl) (fun someV1 => sg_asg (f := .lst) (ρ' := fun someV2 => [.pen, .d whole, .d (.int spot), .d sign, .d (.lst parts), .d (.int place), .d (.lst someV2)]) 6 7 (e_add (e_nm 6) ((o_lstL (al_cons (e_join (e_str (x := Str.ofString " ")) (e_add (e_sl (e_nm 4) (p_none) (p_some (e_add (e_nm 5) (e_int)))) (e_sl (e_nm 4) (p_some (e_nm 5)) (p_none)))) (al_cons (e_add (e_add (e_nm 1) (e_str (x := Str.ofString "; "))) (e_nm 1)) (al_cons (e_add (e_add (e_nm 1) (e_str (x := Str.ofString "\n"))) (e_nm 1)) (al_nil))))).e)) (g_nm 6 nd) rfl lst_inj rfl (by decide) (fun _ => rfl) (fun someV2 => sg_asg (f := .lst) (ρ' := fun someV3 => [.pen, .d whole, .d (.int spot), .d sign, .d (.lst parts), .d (.int place), .d (.lst someV3)]) 6 7 (e_add (e_nm 6) ((o_lstL (al_cons (e_upper (e_nm 1)) (al_cons ((o_lstL (al_cons (e_sl (e_nm 1) (p_none) (p_some (e_int))) (al_nil))).e) (al_cons (e_non) (al_cons (e_int) (al_cons (e_str (x := Str.ofString "")) (al_cons (e_str (x := Str.ofString "-")) (al_cons (e_str (x := Str.ofString "- ")) (al_cons (e_str (x := Str.ofString "try { - } else { - }")) (al_nil)))))))))).e)) (g_nm 6 nd) rfl lst_inj rfl (by decide) (fun _ => rfl) (fun someV3 => sg_retT (e_ix (e_add (e_nm 6) ((o_lstL (al_cons (e_str (x := Str.ofString "set a 1000000000000000001")) (al_nil))).e)) (e_call (ps := ["_law_feed_here", "_law_bound"]) ⟨ok_l_take T, T.g_l_take, T.F_l_take.kp⟩ hg (hr.mono (by decide)) tk T.B_l_take (v_pen 0 (v_cons (e_int) (v_nil))))) rfl (fun _ => rfl))))))))))
end
end Q82

namespace Q82
open PySem PySem.Spec L2 PL LamX
section
variable {P : Program} {w : World} {K : PySem.W.Frag} {mg : Str → Option Value} {base : Heap} (T : Facts K mg)
include T
set_option maxHeartbeats 0 in
theorem walk_l_heard {kk : Nat} (hkk : 1 ≤ kk) : WalkL ((penG.wt T.tb mg).wc true) P w K mg base kk "_law_heard" "_law_ask" T.f_l_heard s_l_heard sc_l_heard_N d_l_heard := by
  intro f c' q σ ds call m cdv A outer s H E Wx hg hr tk po hcm hcall
  replace hr := hr.mono hkk
  have nd := sc_l_heard.nd
  obtain rfl := hcm [.d .non, .d .non, .un]
  unfold d_l_heard
  exact (sg_asgP (d := .non) (ρ' := [.lam f c' q σ ds, .d .non, .un, .un]) 1 (e_non) (g_nm 1 nd) rfl rfl (sg_asgP (d := .non) (ρ' := [.lam f c' q σ ds, .d .non, .d .non, .un]) 2 (e_non) (g_nm 2 nd) rfl rfl (sg_tryAsg (xs := [(Str.ofString "RewindError", _, .ref T.C_RewindError), (Str.ofString "Refused", _, .ref T.C_Refused), (Str.ofString "Full", _, .ref T.C_Full), (Str.ofString "TooLong", _, .ref T.C_TooLong), (Str.ofString "TooLarge", _, .ref T.C_TooLarge)]) (i := 3) (i2 := 2) (j := 1) (ok := fun found => [.lam f c' q σ ds, .d found, .d .non, .un]) (emb := fun err => [.lam f c' q σ ds, .d .non, .exc err, .un]) T.ei rfl rfl rfl nd rfl rfl rfl rfl rfl rfl (lz 5 rfl (by decide)) (ap_cons (nmG (x := Str.ofString "RewindError") (by decide) T.m_RewindError) (ap_cons (nmG (x := Str.ofString "Refused") (by decide) T.m_Refused) (ap_cons (nmG (x := Str.ofString "Full") (by decide) T.m_Full) (ap_cons (nmG (x := Str.ofString "TooLong") (by decide) T.m_TooLong) (ap_cons (nmG (x := Str.ofString "TooLarge") (by decide) T.m_TooLarge) (ap_nil)))))) (ap_cons (List.mem_of_getElem? (i := 0) rfl) (ap_cons (List.mem_of_getElem? (i := 1) rfl) (ap_cons (List.mem_of_getElem? (i := 2) rfl) (ap_cons (List.mem_of_getElem? (i := 3) rfl) (ap_cons (List.mem_of_getElem? (i := 4) rfl) (ap_nil)))))) (by decide) (by decide) (fun W pn xe tk' _ => hcall W pn xe _ _ tk') rfl (fun _ => rfl) (fun found => sg_ifP (t_cmp (cm_is) (e_nm 2) (e_non)) rfl
    (sg_retP (d := (.lst [found])) ((o_lstL (al_cons (e_nm 1) (al_nil))).e) rfl rfl)
    (sg_stuck)) (fun _ => rfl) (fun err => sg_ifP (x := false) (t_excN rfl 2) rfl
    (sg_stuck)
    (sg_push (sg_if ((tw_or (t_not (t_truth (e_isX (cv := .ref T.C_InvalidText) T.ei rfl 2 (by exact (nmG (x := Str.ofString "InvalidText") (by decide) T.m_InvalidText)) rfl (List.mem_of_getElem? (i := 10) rfl) (T.z_isinstance)))) (tw_or1 (t_not (t_truth (e_isX (cv := .type "ValueError") T.ei rfl 2 (by exact (nmB (x := Str.ofString "ValueError") (by decide) (T.z_ValueError) (by decide +kernel) (by decide))) rfl (List.mem_of_getElem? (i := 11) rfl) (T.z_isinstance)))))).t) rfl
    (sg_retP (d := (.str (Str.ofString "odd"))) (e_str (x := Str.ofString "odd")) rfl rfl)
    (sg_push (sg_if (t_truth (e_isXT (xs := [(Str.ofString "InvalidScript", _, .ref T.C_InvalidScript), (Str.ofString "InvalidState", _, .ref T.C_InvalidState), (Str.ofString "InvalidProgram", _, .ref T.C_InvalidProgram), (Str.ofString "InvalidCommand", _, .ref T.C_InvalidCommand), (Str.ofString "InvalidLine", _, .ref T.C_InvalidLine)]) T.ei rfl 2 (by exact ap_cons ⟨(nmG (x := Str.ofString "InvalidScript") (by decide) T.m_InvalidScript), rfl⟩ (ap_cons ⟨(nmG (x := Str.ofString "InvalidState") (by decide) T.m_InvalidState), rfl⟩ (ap_cons ⟨(nmG (x := Str.ofString "InvalidProgram") (by decide) T.m_InvalidProgram), rfl⟩ (ap_cons ⟨(nmG (x := Str.ofString "InvalidCommand") (by decide) T.m_InvalidCommand), rfl⟩ (ap_cons ⟨(nmG (x := Str.ofString "InvalidLine") (by decide) T.m_InvalidLine), rfl⟩ (ap_nil)))))) (ap_cons (List.mem_of_getElem? (i := 5) rfl) (ap_cons (List.mem_of_getElem? (i := 6) rfl) (ap_cons (List.mem_of_getElem? (i := 7) rfl) (ap_cons (List.mem_of_getElem? (i := 8) rfl) (ap_cons (List.mem_of_getElem? (i := 9) rfl) (ap_nil)))))) (lz 5 rfl (by decide)) (T.z_isinstance))) rfl
    (sg_retP (d := (.str (Str.ofString "odd"))) (e_str (x := Str.ofString "odd")) rfl rfl)
    (sg_push (sg_retT (e_tupL (al_cons (e_str (x := Str.ofString "text")) (al_cons (e_fldX (ys := [Str.ofString "InvalidText"]) T.fo_position rfl 2) (al_nil)))) rfl (fun _ => rfl)))))))))))
end
end Q82

namespace Q82
open PySem PySem.Spec L2 PL LamX
section
variable {P : Program} {w : World} {K : PySem.W.Frag} {mg : Str → Option Value} {base : Heap} (T : Facts K mg)
include T
set_option maxHeartbeats 0 in
theorem ok_l_program_text : ∀ n : Nat, FnG P w K mg base (2 + n) T.f_l_program_text T.d_l_program_text ["_law_row"] (spM ((penG.wt T.tb mg).wc true) K mg 1 (m_l_program_text n))
  | 0 => ⟨fun vs H Q E ⟨S, pen, args, n, P, PX, hl, _, _, _, _, r, _⟩ => r.len.trans hl, fun A outer s H args us vs Q E hg hr he hb r ⟨S, pen, args, n, P, PX, hl, _, _, _, _, _, q, _⟩ => False.elim q⟩
  | n + 1 => by
    have IH := ok_l_program_text n
    have nd := sc_l_program_text.nd
    refine fn_okG (m := m_l_program_text (n + 1)) (Sh := fun args => ∃ row : D, args = [.d row]) T.F_l_program_text sc_l_program_text (by decide) (fun args n0 P PX h => ?_) ?_
    · replace h : mm_l_program_text (m_l_program_text n) args n0 P PX := h
      unfold mm_l_program_text at h; split at h
      all_goals first | exact ⟨_, rfl⟩ | exact False.elim h
    · rintro args ⟨row, rfl⟩ cdv A outer s H E Wx hg hr tk po
      show SG _ _ _ _ _ EnT (d_l_program_text (m_l_program_text n) row)
      unfold d_l_program_text
      exact (sg_ownP (d := []) (ρ' := [.d row, .own [], .un, .un]) 1 (o_lstL (al_nil)) nd rfl rfl (sg_forI (t := (.nm 2)) (f := (fun y : D => y)) (emb := (fun j : List D => [.d row, .own j, .un, .un])) (e := (fun a j => [.d row, .own j, .d a, .un])) po rfl (w_seqZ (e_nm 0)) (g_nm 2 nd) rfl seqT_map id_inj (Le.same (Le.same (Le.same (Le.same (Le.nil))))) (fun x j => rfl) (fun j a b h => id_inj _ _ (by have q := congrArg (·[2]?) h; exact SV.d.inj (Option.some.inj q)))
    (fun one j => sg_if (t_cmp (cm_eq (u64 hr)) (e_ix (e_nm 2) (e_int)) (e_str (x := Str.ofString "try"))) rfl
    (sg_asg (f := .lst) (ρ' := fun blocks => [.d row, .own j, .d one, .d (.lst blocks)]) 3 4 ((o_lstL (hz := Nat.le_of_ble_eq_true rfl) (al_cons (e_add (e_add (e_str (x := Str.ofString "{ ")) (e_call (ps := ["_law_row"]) ⟨IH, T.g_l_program_text, T.F_l_program_text.kp⟩ hg hr tk T.B_l_program_text (v_cons (e_ix (e_nm 2) (e_int)) (v_nil)))) (e_str (x := Str.ofString " }"))) (al_cons (e_add (e_add (e_str (x := Str.ofString "{ ")) (e_call (ps := ["_law_row"]) ⟨IH, T.g_l_program_text, T.F_l_program_text.kp⟩ hg hr tk T.B_l_program_text (v_cons (e_ix (e_nm 2) (e_int)) (v_nil)))) (e_str (x := Str.ofString " }"))) (al_nil)))).e) (g_nm 3 nd) rfl lst_inj rfl (by decide) (fun _ => rfl) (fun blocks => sg_app (f := (fun x => x)) (ρ' := fun app => [.d row, .own (j ++ [app]), .d one, .d (.lst blocks)]) (xs := j) 1 4 (e_add (e_str (x := Str.ofString "try ")) (e_join (e_str (x := Str.ofString " else ")) (e_nm 3))) rfl rfl id_inj rfl (by decide) (fun _ => rfl) (fun app => sg_push (sg_nil ⟨(j ++ [app]), rfl, (Le.same (Le.same (Le.un (Le.un (Le.nil)))))⟩))))
    (sg_app (f := (fun x => x)) (ρ' := fun app1 => [.d row, .own (j ++ [app1]), .d one, .un]) (xs := j) 1 4 (e_call (ps := ["_law_row"]) ⟨ok_l_shown T, T.g_l_shown, T.F_l_shown.kp⟩ hg (hr.mono (Nat.le_trans (show _ ≤ 2 by decide) (Nat.le_add_right 2 _))) tk T.B_l_shown (v_cons ((o_lstL (hz := Nat.le_of_ble_eq_true rfl) (al_cons (e_nm 2) (al_nil))).e) (v_nil))) rfl rfl id_inj rfl (by decide) (fun _ => rfl) (fun app1 => sg_push (sg_nil ⟨(j ++ [app1]), rfl, (Le.same (Le.same (Le.un (Le.same (Le.nil)))))⟩))))
    (fun j2 => sg_retT (e_if (t_cmp (cm_ne (u64 hr)) (e_nm 1) ((o_lstL (al_nil)).e)) (e_join (e_str (x := Str.ofString "; ")) (e_nm 1)) (e_str (x := Str.ofString "-"))) rfl (fun _ => rfl))))
theorem okk_l_program_text : FnG P w K mg base 8 T.f_l_program_text T.d_l_program_text ["_law_row"] (spM ((penG.wt T.tb mg).wc true) K mg 1 k_l_program_text) := by
  rw [k_l_program_text_eq]
  exact ok_l_program_text T 6
end
end Q82

namespace Q82
open PySem PySem.Spec L2 PL LamX
section
variable {P : Program} {w : World} {K : PySem.W.Frag} {mg : Str → Option Value} {base : Heap} (T : Facts K mg)
include T
set_option maxHeartbeats 0 in
theorem ok_l_try_in {k : Nat} (hk : 1 ≤ k) (recF : List SV → W D) (IH : FnG P w K mg base k T.f_l_block_in T.d_l_block_in ["_law_words", "_law_at", "_law_depth"] (spM ((penG.wt T.tb mg).wc true) K mg 3 recF)) : FnG P w K mg base (k + 1) T.f_l_try_in T.d_l_try_in ["_law_words", "_law_at", "_law_depth"] (spM ((penG.wt T.tb mg).wc true) K mg 3 (mm_l_try_in recF)) := by
  have nd := sc_l_try_in.nd
  refine fn_okG (m := mm_l_try_in recF) (Sh := fun args => ∃ words : D, ∃ atV : Int, ∃ depth : Int, args = [.d words, .d (.int atV), .d (.int depth)]) T.F_l_try_in sc_l_try_in (by decide) (fun args n P PX h => ?_) ?_
  · unfold mm_l_try_in at h; split at h
    all_goals first | exact ⟨_, _, _, rfl⟩ | exact False.elim h
  · rintro args ⟨words, atV, depth, rfl⟩ cdv A outer s H E Wx hg hr tk po
    show SG _ _ _ _ _ EnT (d_l_try_in recF words atV depth)
    unfold d_l_try_in
    exact (sg_asg (f := (fun x => x)) (ρ' := fun first => [.d words, .d (.int atV), .d (.int depth), .d first, .un]) 3 5 (e_if (t_cmp (cm_eq (u64 hr)) (e_sl (e_nm 0) (p_some (e_add (e_nm 1) (e_int))) (p_some (e_add (e_nm 1) (e_int)))) ((o_lstL (al_cons (e_str (x := Str.ofString "{")) (al_nil))).e)) (e_call (ps := ["_law_words", "_law_at", "_law_depth"]) ⟨IH, T.g_l_block_in, T.F_l_block_in.kp⟩ hg hr tk T.B_l_block_in (v_cons (e_nm 0) (v_cons (e_add (e_nm 1) (e_int)) (v_cons (e_add (e_nm 2) (e_int)) (v_nil))))) (e_non)) (g_nm 3 nd) rfl id_inj rfl (by decide) (fun _ => rfl) (fun first => sg_if ((tw_or (t_cmp (cm_is) (e_nm 3) (e_non)) (tw_or1 (t_cmp (cm_ne (u64 hr)) (e_sl (e_nm 0) (p_some (e_asI (e_ix (e_nm 3) (e_int)))) (p_some (e_add (e_asI (e_ix (e_nm 3) (e_int))) (e_int)))) ((o_lstL (al_cons (e_str (x := Str.ofString "}")) (al_cons (e_str (x := Str.ofString "else")) (al_cons (e_str (x := Str.ofString "{")) (al_nil))))).e)))).t) rfl
    (sg_retP (d := .non) (e_non) rfl rfl)
    (sg_push (sg_asg (f := (fun x => x)) (ρ' := fun second => [.d words, .d (.int atV), .d (.int depth), .d first, .d second]) 4 5 (e_call (ps := ["_law_words", "_law_at", "_law_depth"]) ⟨IH, T.g_l_block_in, T.F_l_block_in.kp⟩ hg hr tk T.B_l_block_in (v_cons (e_nm 0) (v_cons (e_add (e_asI (e_ix (e_nm 3) (e_int))) (e_int)) (v_cons (e_add (e_nm 2) (e_int)) (v_nil))))) (g_nm 4 nd) rfl id_inj rfl (by decide) (fun _ => rfl) (fun second => sg_retT (e_if (t_cmp (cm_is) (e_nm 4) (e_non)) (e_non) (e_tupL (al_cons (e_tupL (al_cons (e_str (x := Str.ofString "try")) (al_cons (e_ix (e_nm 3) (e_int)) (al_cons (e_ix (e_nm 4) (e_int)) (al_nil))))) (al_cons (e_ix (e_nm 4) (e_int)) (al_nil))))) rfl (fun _ => rfl))))))
end
end Q82

namespace Q82
open PySem PySem.Spec L2 PL LamX
section
variable {P : Program} {w : World} {K : PySem.W.Frag} {mg : Str → Option Value} {base : Heap} (T : Facts K mg)
include T
set_option maxHeartbeats 0 in
theorem ok_l_block_in : ∀ n : Nat, FnG P w K mg base (lv2 4 n) T.f_l_block_in T.d_l_block_in ["_law_words", "_law_at", "_law_depth"] (spM ((penG.wt T.tb mg).wc true) K mg 3 (m_l_block_in n))
  | 0 => ⟨fun vs H Q E ⟨S, pen, args, n, P, PX, hl, _, _, _, _, r, _⟩ => r.len.trans hl, fun A outer s H args us vs Q E hg hr he hb r ⟨S, pen, args, n, P, PX, hl, _, _, _, _, _, q, _⟩ => False.elim q⟩
  | n + 1 => by
    have IH := ok_l_block_in n
    have IH_l_try_in := ok_l_try_in T (k := lv2 4 n) (Nat.le_trans (show 1 ≤ 4 by decide) (lv2_le 4 n)) (m_l_block_in n) IH
    have nd := sc_l_block_in.nd
    show FnG P w K mg base (lv2 4 n + 1 + 1) T.f_l_block_in T.d_l_block_in ["_law_words", "_law_at", "_law_depth"] (spM ((penG.wt T.tb mg).wc true) K mg 3 (m_l_block_in (n + 1)))
    refine fn_okG (m := m_l_block_in (n + 1)) (Sh := fun args => ∃ words : D, ∃ atV : Int, ∃ depth : Int, args = [.d words, .d (.int atV), .d (.int depth)]) T.F_l_block_in sc_l_block_in (by decide) (fun args n0 P PX h => ?_) ?_
    · replace h : mm_l_block_in (m_l_block_in n) args n0 P PX := h
      unfold mm_l_block_in at h; split at h
      all_goals first | exact ⟨_, _, _, rfl⟩ | exact False.elim h
    · rintro args ⟨words, atV, depth, rfl⟩ cdv A outer s H E Wx hg hr tk po
      show SG _ _ _ _ _ EnT (d_l_block_in (m_l_block_in n) words atV depth)
      unfold d_l_block_in
      exact (sg_if ((tw_or (t_cmp (cm_gt) (e_nm 2) (e_int)) (tw_or1 (t_cmp (cm_ge) (e_nm 1) (e_lenI (T.z_len) (e_nm 0))))).t) rfl
    (sg_retP (d := .non) (e_non) rfl rfl)
    (sg_push (sg_if (t_cmp (cm_eq (u64 hr)) (e_ix (e_nm 0) (e_nm 1)) (e_str (x := Str.ofString "-"))) rfl
    (sg_retP (d := (.tup [(.tup []), (.int (atV + 1))])) (e_tupL (hz := Nat.le_of_ble_eq_true rfl) (al_cons (e_tupL (al_nil)) (al_cons (e_add (e_nm 1) (e_int)) (al_nil)))) rfl rfl)
    (sg_push (sg_ownP (d := []) (ρ' := [.d words, .d (.int atV), .d (.int depth), .own [], .un, .un, .un, .un]) 3 (o_lstL (al_nil)) nd rfl rfl (sg_while (emb := (fun j : Int × List D => [.d words, .d (.int j.1), .d (.int depth), .own j.2, .un, .un, .un, .un])) po (t_truth (e_bl)) (Le.same (Le.same (Le.same (Le.same (Le.same (Le.same (Le.same (Le.same (Le.nil))))))))) (fun j => rfl)
    (fun j => sg_ifJ (emb := (fun j1 : Int × List D × D => [.d words, .d (.int j1.1), .d (.int depth), .own j1.2.1, .un, .d j1.2.2, .un, .un])) (t_cmp (cm_eq (u64 hr)) (e_sl (e_nm 0) (p_some (e_nm 1)) (p_some (e_add (e_nm 1) (e_int)))) ((o_lstL (hz := Nat.le_of_ble_eq_true rfl) (al_cons (e_str (x := Str.ofString "try")) (al_nil))).e)) rfl
    (sg_asg (f := (fun x => x)) (ρ' := fun one => [.d words, .d (.int j.1), .d (.int depth), .own j.2, .d one, .un, .un, .un]) 4 8 (e_call (ps := ["_law_words", "_law_at", "_law_depth"]) ⟨IH_l_try_in, T.g_l_try_in, T.F_l_try_in.kp⟩ hg hr tk T.B_l_try_in (v_cons (e_nm 0) (v_cons (e_nm 1) (v_cons (e_nm 2) (v_nil))))) (g_nm 4 nd) rfl id_inj rfl (by decide) (fun _ => rfl) (fun one => sg_if ((tw_or (t_cmp (cm_is) (e_nm 4) (e_non)) (tw_or1 (t_cmp (cm_notInDpT (u65 hr)) (e_sl (e_nm 0) (p_some (e_asI (e_ix (e_nm 4) (e_int)))) (p_some (e_add (e_asI (e_ix (e_nm 4) (e_int))) (e_int)))) (e_tupL (hz := Nat.le_of_ble_eq_true rfl) (al_cons ((o_lstL (hz := Nat.le_of_ble_eq_true rfl) (al_cons (e_str (x := Str.ofString "}")) (al_nil))).e) (al_cons ((o_lstL (hz := Nat.le_of_ble_eq_true rfl) (al_cons (e_str (x := Str.ofString "};")) (al_nil))).e) (al_nil))))))).t) rfl
    (sg_retP (d := .non) (e_non) rfl ⟨ret (.out .non), ⟨ret .non, rfl, rfl⟩, rfl⟩)
    (sg_push (sg_app (f := (fun x => x)) (ρ' := fun app => [.d words, .d (.int j.1), .d (.int depth), .own (j.2 ++ [app]), .d one, .un, .un, .un]) (xs := j.2) 3 8 (e_ix (e_nm 4) (e_int)) rfl rfl id_inj rfl (by decide) (fun _ => rfl) (fun app => sg_asg (f := (fun x => x)) (ρ' := fun last => [.d words, .d (.int j.1), .d (.int depth), .own (j.2 ++ [app]), .d one, .d last, .un, .un]) 5 8 (e_ix (e_nm 0) (e_asI (e_ix (e_nm 4) (e_int)))) (g_nm 5 nd) rfl id_inj rfl (by decide) (fun _ => rfl) (fun last => sg_asg (f := .int) (ρ' := fun atV1 => [.d words, .d (.int atV1), .d (.int depth), .own (j.2 ++ [app]), .d one, .d last, .un, .un]) 1 8 (e_add (e_asI (e_ix (e_nm 4) (e_int))) (e_int)) (g_nm 1 nd) rfl int_inj rfl (by decide) (fun _ => rfl) (fun atV1 => sg_nil ⟨(atV1, (j.2 ++ [app]), last), rfl, (Le.same (Le.same (Le.same (Le.same (Le.un (Le.same (Le.same (Le.same (Le.nil)))))))))⟩)))))))
    (sg_asg (f := (fun x => x)) (ρ' := fun many => [.d words, .d (.int j.1), .d (.int depth), .own j.2, .un, .un, .d many, .un]) 6 8 (e_if (t_cmp (cm_eq (u64 hr)) (e_sl (e_nm 0) (p_some (e_nm 1)) (p_some (e_add (e_nm 1) (e_int)))) ((o_lstL (hz := Nat.le_of_ble_eq_true rfl) (al_cons (e_str (x := Str.ofString "set")) (al_nil))).e)) (e_int) (e_int)) (g_nm 6 nd) rfl id_inj rfl (by decide) (fun _ => rfl) (fun many => sg_asg (f := (fun x => x)) (ρ' := fun row => [.d words, .d (.int j.1), .d (.int depth), .own j.2, .un, .un, .d many, .d row]) 7 8 (e_sl (e_nm 0) (p_some (e_nm 1)) (p_some (e_add (e_nm 1) (e_asI (e_nm 6))))) (g_nm 7 nd) rfl id_inj rfl (by decide) (fun _ => rfl) (fun row => sg_asg (f := (fun x => x)) (ρ' := fun last1 => [.d words, .d (.int j.1), .d (.int depth), .own j.2, .un, .d last1, .d many, .d row]) 5 8 (e_if (t_cmp (cm_ne (u64 hr)) (e_nm 7) ((o_lstL (al_nil)).e)) (e_ix (e_nm 7) (e_neg (e_int))) (e_str (x := Str.ofString ""))) (g_nm 5 nd) rfl id_inj rfl (by decide) (fun _ => rfl) (fun last1 => sg_asg (f := (fun x => x)) (ρ' := fun one1 => [.d words, .d (.int j.1), .d (.int depth), .own j.2, .d one1, .d last1, .d many, .d row]) 4 8 (e_call (ps := ["_law_words"]) ⟨ok_l_command_in T, T.g_l_command_in, T.F_l_command_in.kp⟩ hg (hr.mono (Nat.le_trans (show _ ≤ 4 by decide) (Nat.le_succ_of_le (lv2_le 4 _)))) tk T.B_l_command_in (v_cons (e_add (e_sl (e_nm 7) (p_none) (p_some (e_neg (e_int)))) ((o_lstL (hz := Nat.le_of_ble_eq_true rfl) (al_cons (e_sl (e_nm 5) (p_none) (p_some (e_sub (e_lenI (T.z_len) (e_nm 5)) (e_toint (T.z_int) (e_cmp (cm_eq (u64 hr)) (e_sl (e_nm 5) (p_some (e_neg (e_int))) (p_none)) (e_str (x := Str.ofString ";"))))))) (al_nil))).e)) (v_nil))) (g_nm 4 nd) rfl id_inj rfl (by decide) (fun _ => rfl) (fun one1 => sg_ifP (t_cmp (cm_is) (e_nm 4) (e_non)) rfl
    (sg_retP (d := .non) (e_non) rfl ⟨ret (.out .non), ⟨ret .non, rfl, rfl⟩, rfl⟩)
    (sg_push (sg_appP (d := one1) (ρ' := [.d words, .d (.int j.1), .d (.int depth), .own (j.2 ++ [one1]), .d one1, .d last1, .d many, .d row]) (xs := j.2) 3 8 (e_nm 4) rfl rfl rfl (by decide) rfl (sg_asg (f := .int) (ρ' := fun atV2 => [.d words, .d (.int atV2), .d (.int depth), .own (j.2 ++ [one1]), .d one1, .d last1, .d many, .d row]) 1 8 (e_add (e_nm 1) (e_asI (e_nm 6))) (g_nm 1 nd) rfl int_inj rfl (by decide) (fun _ => rfl) (fun atV2 => sg_nil ⟨(atV2, (j.2 ++ [one1]), last1), rfl, (Le.same (Le.same (Le.same (Le.same (Le.un (Le.same (Le.un (Le.un (Le.nil)))))))))⟩)))))))))
    (fun j1 => sg_if (t_cmp (cm_ne (u64 hr)) (e_sl (e_nm 5) (p_some (e_neg (e_int))) (p_none)) (e_str (x := Str.ofString ";"))) rfl
    (sg_retP (d := (.tup [(.tup j1.2.1), (.int j1.1)])) (e_tupL (hz := Nat.le_of_ble_eq_true rfl) (al_cons (e_tuple (T.z_tuple) (e_nm 3)) (al_cons (e_nm 1) (al_nil)))) rfl ⟨ret (.tup [(.tup j1.2.1), (.int j1.1)]), rfl, rfl⟩)
    (sg_push (sg_nil ⟨(j1.1, j1.2.1), rfl, (Le.same (Le.same (Le.same (Le.same (Le.same (Le.un (Le.same (Le.same (Le.nil)))))))))⟩))))
    (fun j2 => sg_nil rfl)))))))
theorem okk_l_block_in : FnG P w K mg base 16 T.f_l_block_in T.d_l_block_in ["_law_words", "_law_at", "_law_depth"] (spM ((penG.wt T.tb mg).wc true) K mg 3 k_l_block_in) := by
  rw [k_l_block_in_eq]
  exact ok_l_block_in T 6
end
end Q82

namespace Q82
open PySem PySem.Spec L2 PL LamX
section
variable {P : Program} {w : World} {K : PySem.W.Frag} {mg : Str → Option Value} {base : Heap} (T : Facts K mg)
include T
set_option maxHeartbeats 0 in
theorem ok_l_size : ∀ n : Nat, FnG P w K mg base (1 + n) T.f_l_size T.d_l_size ["_law_row"] (spM ((penG.wt T.tb mg).wc true) K mg 1 (m_l_size n))
  | 0 => ⟨fun vs H Q E ⟨S, pen, args, n, P, PX, hl, _, _, _, _, r, _⟩ => r.len.trans hl, fun A outer s H args us vs Q E hg hr he hb r ⟨S, pen, args, n, P, PX, hl, _, _, _, _, _, q, _⟩ => False.elim q⟩
  | n + 1 => by
    have IH := ok_l_size n
    have nd := sc_l_size.nd
    refine fn_okG (m := m_l_size (n + 1)) (Sh := fun args => ∃ row : D, args = [.d row]) T.F_l_size sc_l_size (by decide) (fun args n0 P PX h => ?_) ?_
    · replace h : mm_l_size (m_l_size n) args n0 P PX := h
      unfold mm_l_size at h; split at h
      all_goals first | exact ⟨_, rfl⟩ | exact False.elim h
    · rintro args ⟨row, rfl⟩ cdv A outer s H E Wx hg hr tk po
      show SG _ _ _ _ _ EnT (d_l_size (m_l_size n) row)
      unfold d_l_size
      exact (sg_asg2P (z1 := (.int 0)) (z2 := (.int 0)) (ρ' := [.d row, .d (.int 0), .d (.int 0), .un, .un]) 1 2 5 (e_tupL (hz := Nat.le_of_ble_eq_true rfl) (al_cons (e_int) (al_cons (e_int) (al_nil)))) (g_tp rfl (gs_cons (g_nm 1 nd) (gs_cons (g_nm 2 nd) (gs_nil)))) rfl rfl (by decide) (by decide) (by decide) rfl (sg_forI (t := (.nm 3)) (f := (fun y : D => y)) (emb := (fun j : Int × Int => [.d row, .d (.int j.1), .d (.int j.2), .un, .un])) (e := (fun a j => [.d row, .d (.int j.1), .d (.int j.2), .d a, .un])) po rfl (w_seqZ (e_nm 0)) (g_nm 3 nd) rfl seqT_map id_inj (Le.same (Le.same (Le.same (Le.same (Le.same (Le.nil)))))) (fun x j => rfl) (fun j a b h => id_inj _ _ (by have q := congrArg (·[3]?) h; exact SV.d.inj (Option.some.inj q)))
    (fun one j => sg_if (t_cmp (cm_eq (u64 hr)) (e_ix (e_nm 3) (e_int)) (e_str (x := Str.ofString "try"))) rfl
    (sg_asg (f := .lst) (ρ' := fun sizes => [.d row, .d (.int j.1), .d (.int j.2), .d one, .d (.lst sizes)]) 4 5 ((o_lstL (hz := Nat.le_of_ble_eq_true rfl) (al_cons (e_call (ps := ["_law_row"]) ⟨IH, T.g_l_size, T.F_l_size.kp⟩ hg hr tk T.B_l_size (v_cons (e_ix (e_nm 3) (e_int)) (v_nil))) (al_cons (e_call (ps := ["_law_row"]) ⟨IH, T.g_l_size, T.F_l_size.kp⟩ hg hr tk T.B_l_size (v_cons (e_ix (e_nm 3) (e_int)) (v_nil))) (al_nil)))).e) (g_nm 4 nd) rfl lst_inj rfl (by decide) (fun _ => rfl) (fun sizes => sg_asg (f := .int) (ρ' := fun many => [.d row, .d (.int many), .d (.int j.2), .d one, .d (.lst sizes)]) 1 5 (e_add (e_add (e_nm 1) (e_asI (e_ix (e_ix (e_nm 4) (e_int)) (e_int)))) (e_asI (e_ix (e_ix (e_nm 4) (e_int)) (e_int)))) (g_nm 1 nd) rfl int_inj rfl (by decide) (fun _ => rfl) (fun many => sg_asg (f := .int) (ρ' := fun tries => [.d row, .d (.int many), .d (.int tries), .d one, .d (.lst sizes)]) 2 5 (e_add (e_add (e_add (e_nm 2) (e_int)) (e_asI (e_ix (e_ix (e_nm 4) (e_int)) (e_int)))) (e_asI (e_ix (e_ix (e_nm 4) (e_int)) (e_int)))) (g_nm 2 nd) rfl int_inj rfl (by decide) (fun _ => rfl) (fun tries => sg_push (sg_nil ⟨(many, tries), rfl, (Le.same (Le.same (Le.same (Le.un (Le.un (Le.nil))))))⟩)))))
    (sg_asgP (d := (.int (j.1 + 1))) (ρ' := [.d row, .d (.int (j.1 + 1)), .d (.int j.2), .d one, .un]) 1 (e_add (e_nm 1) (e_int)) (g_nm 1 nd) rfl rfl (sg_push (sg_nil ⟨((j.1 + 1), j.2), rfl, (Le.same (Le.same (Le.same (Le.un (Le.same (Le.nil))))))⟩))))
    (fun j1 => sg_retP (d := (.tup [(.int j1.1), (.int j1.2)])) (e_tupL (hz := Nat.le_of_ble_eq_true rfl) (al_cons (e_nm 1) (al_cons (e_nm 2) (al_nil)))) rfl rfl)))
theorem okk_l_size : FnG P w K mg base 7 T.f_l_size T.d_l_size ["_law_row"] (spM ((penG.wt T.tb mg).wc true) K mg 1 k_l_size) := by
  rw [k_l_size_eq]
  exact ok_l_size T 6
end
end Q82

namespace Q82
open PySem PySem.Spec L2 PL LamX
section
variable {P : Program} {w : World} {K : PySem.W.Frag} {mg : Str → Option Value} {base : Heap} (T : Facts K mg)
include T
set_option maxHeartbeats 0 in
theorem ok_l_due : FnG P w K mg base 17 T.f_l_due T.d_l_due ["_law_thing"] (spM ((penG.wt T.tb mg).wc true) K mg 1 m_l_due) := by
  have nd := sc_l_due.nd
  refine fn_okG (m := m_l_due) (Sh := fun args => ∃ thing : D, args = [.d thing]) T.F_l_due sc_l_due (by decide) (fun args n P PX h => ?_) ?_
  · unfold m_l_due at h; split at h
    all_goals first | exact ⟨_, rfl⟩ | exact False.elim h
  · rintro args ⟨thing, rfl⟩ cdv A outer s H E Wx hg hr tk po
    show SG _ _ _ _ _ EnT (d_l_due thing)
    unfold d_l_due
    exact (sg_asgP (d := .non) (ρ' := [.d thing, .d .non, .un, .un, .un]) 1 (e_non) (g_nm 1 nd) rfl rfl (sg_ifA (emb := (fun j : D => [.d thing, .d j, .un, .un, .un])) (t_truth (e_isi .str (T.z_isinstance) (T.z_str) (by decide +kernel) (e_nm 0))) rfl
    (sg_asg (f := .lst) (ρ' := fun words => [.d thing, .d .non, .d (.lst words), .un, .un]) 2 5 ((o_split (e_nm 0) (e_str (x := Str.ofString " "))).e) (g_nm 2 nd) rfl lst_inj rfl (by decide) (fun _ => rfl) (fun words => sg_asg (f := (fun x => x)) (ρ' := fun found => [.d thing, .d found, .d (.lst words), .un, .un]) 1 5 (e_call (ps := ["_law_words", "_law_at", "_law_depth"]) ⟨okk_l_block_in T, T.g_l_block_in, T.F_l_block_in.kp⟩ hg (hr.mono (by decide)) tk T.B_l_block_in (v_cons (e_nm 2) (v_cons (e_int) (v_cons (e_int) (v_nil))))) (g_nm 1 nd) rfl id_inj rfl (by decide) (fun _ => rfl) (fun found => sg_if ((tw_and (t_cmp (cm_isnot) (e_nm 1) (e_non)) (tw_and1 ((tw_or (t_cmp (cm_ne (u64 hr)) (e_ix (e_nm 1) (e_int)) (e_lenI (T.z_len) (e_nm 2))) (tw_or1 (t_cmp (cm_eq (u64 hr)) (e_sl (e_nm 0) (p_some (e_neg (e_int))) (p_none)) (e_str (x := Str.ofString ";"))))).t))).t) rfl
    (sg_asgP (d := .non) (ρ' := [.d thing, .d .non, .d (.lst words), .un, .un]) 1 (e_non) (g_nm 1 nd) rfl rfl (sg_push (sg_nil ⟨.non, rfl, (Le.same (Le.same (Le.un (Le.same (Le.same (Le.nil))))))⟩)))
    (sg_push (sg_nil ⟨found, rfl, (Le.same (Le.same (Le.un (Le.same (Le.same (Le.nil))))))⟩)))))
    (sg_nil ⟨.non, rfl, (Le.same (Le.same (Le.same (Le.same (Le.same (Le.nil))))))⟩)
    (fun j => sg_ifP (t_cmp (cm_is) (e_nm 1) (e_non)) rfl
    (sg_retP (d := (.tup [(.str (Str.ofString "text")), .non])) (e_tupL (al_cons (e_str (x := Str.ofString "text")) (al_cons (e_non) (al_nil)))) rfl rfl)
    (sg_push (sg_asg2 (f1 := fun a : D × D => a.1) (f2 := fun a : D × D => a.2) (ρ' := fun p => [.d thing, .d j, .un, .d p.1, .d p.2]) 3 4 5 (e_call (ps := ["_law_row"]) ⟨okk_l_size T, T.g_l_size, T.F_l_size.kp⟩ hg (hr.mono (by decide)) tk T.B_l_size (v_cons (e_ix (e_nm 1) (e_int)) (v_nil))) (g_tp rfl (gs_cons (g_nm 3 nd) (gs_cons (g_nm 4 nd) (gs_nil)))) rfl (fun a b h1 h2 => Prod.ext h1 h2) rfl (by decide) (by decide) (by decide) (fun _ => rfl) (fun p => sg_retT (e_if ((tw_and (t_cmp (cm_le) (e_asI (e_nm 3)) (e_int)) (tw_and1 (t_cmp (cm_le) (e_asI (e_nm 4)) (e_int)))).t) ((o_lstL (al_cons (e_ix (e_nm 1) (e_int)) (al_nil))).e) (e_tupL (al_cons (e_str (x := Str.ofString "text")) (al_cons (e_non) (al_nil))))) rfl (fun _ => rfl)))))))
end
end Q82

namespace Q82
open PySem PySem.Spec L2 PL LamX
section
variable {P : Program} {w : World} {K : PySem.W.Frag} {mg : Str → Option Value} {base : Heap} (T : Facts K mg)
include T
set_option maxHeartbeats 0 in
theorem ok_law (TB_law : TabB base mg T.cc_law T.P_law) (holds : d_law n0 (fun d _ => d = .bl true) (fun _ _ => False)) : FnG P w K mg base 22 T.f_law T.d_law ["_law_script"] (spLawT K T.tb) :=
  have nd := sc_law.nd
  law_defKC ((penG.wt T.tb mg).wc true) (b := d_law) (k := 21) (NR := ["_law_deep", "_law_turn", "_law_whole", "_law_bent", "_law_things", "_law_due_here", "_law_block", "_law_deepest", "_law_thing"]) T.F_law sc_law rfl rfl rfl rfl (by first | exact .inl rfl | exact .inr rfl) (by decide) (by decide) (by decide) ((ok_l_feed T.F_l_feed T.z_list).mono (by decide)) T.g_l_feed T.F_l_feed.kp T.B_l_feed (fun cdv A outer s H E Wx hcc hg hr tk po => by
    unfold d_law
    exact (sg_asgP (d := (.str (Str.ofString "try { try { try { mark a } else { - } } else { keep a } } else { del b }"))) (ρ' := [.un, .pen, .d (.str (Str.ofString "try { try { try { mark a } else { - } } else { keep a } } else { del b }")), .un, .un, .un, .un, .un, .un, .un, .un]) 2 (e_str (x := Str.ofString "try { try { try { mark a } else { - } } else { keep a } } else { del b }")) (g_nm 2 nd) rfl rfl (sg_forI (t := (.nm 3)) (f := D.int) (emb := (fun j : Unit => [.un, .pen, .d (.str (Str.ofString "try { try { try { mark a } else { - } } else { keep a } } else { del b }")), .un, .un, .un, .un, .un, .un, .un, .un])) (e := (fun a j => [.un, .pen, .d (.str (Str.ofString "try { try { try { mark a } else { - } } else { keep a } } else { del b }")), .d (.int a), .un, .un, .un, .un, .un, .un, .un])) po rfl (w_rngK (w_rng1Z (T.z_range) (e_int))) (g_nm 3 nd) rfl (fun _ => rfl) int_inj (Le.same (Le.same (Le.same (Le.same (Le.same (Le.same (Le.same (Le.same (Le.same (Le.same (Le.same (Le.nil)))))))))))) (fun x j => rfl) (fun j a b h => int_inj _ _ (by have q := congrArg (·[3]?) h; exact SV.d.inj (Option.some.inj q)))
    (fun turn j => sg_asg (f := (fun x => x)) (ρ' := fun whole => [.un, .pen, .d (.str (Str.ofString "try { try { try { mark a } else { - } } else { keep a } } else { del b }")), .d (.int turn), .d whole, .un, .un, .un, .un, .un, .un]) 4 11 (e_call (ps := ["_law_row"]) ⟨okk_l_program_text T, T.g_l_program_text, T.F_l_program_text.kp⟩ hg (hr.mono (by decide)) tk T.B_l_program_text (v_cons (e_call (ps := ["_law_feed_here", "_law_room", "_law_depth"]) ⟨okk_l_program T, T.g_l_program, T.F_l_program.kp⟩ hg (hr.mono (by decide)) tk T.B_l_program (v_pen 1 (v_mkL rfl (o_lstL (al_cons (e_int) (al_cons (e_int) (al_nil)))) (v_cons (e_int) (v_nil))))) (v_nil))) (g_nm 4 nd) rfl id_inj rfl (by decide) (fun _ => rfl) (fun whole => sg_asg (f := (fun x => x)) (ρ' := fun bent => [.un, .pen, .d (.str (Str.ofString "try { try { try { mark a } else { - } } else { keep a } } else { del b }")), .d (.int turn), .d whole, .d bent, .un, .un, .un, .un, .un]) 5 11 (e_call (ps := ["_law_feed_here", "_law_whole"]) ⟨ok_l_bent_text T, T.g_l_bent_text, T.F_l_bent_text.kp⟩ hg (hr.mono (by decide)) tk T.B_l_bent_text (v_pen 1 (v_cons (e_nm 4) (v_nil)))) (g_nm 5 nd) rfl id_inj rfl (by decide) (fun _ => rfl) (fun bent => sg_own (ρ' := fun things => [.un, .pen, .d (.str (Str.ofString "try { try { try { mark a } else { - } } else { keep a } } else { del b }")), .d (.int turn), .d whole, .d bent, .own things, .un, .un, .un, .un]) 6 11 (o_lstL (al_cons (e_nm 4) (al_cons (e_nm 5) (al_cons (e_call (ps := ["_law_feed_here", "_law_whole"]) ⟨ok_l_bent_text T, T.g_l_bent_text, T.F_l_bent_text.kp⟩ hg (hr.mono (by decide)) tk T.B_l_bent_text (v_pen 1 (v_cons (e_nm 4) (v_nil)))) (al_cons (e_call (ps := ["_law_feed_here", "_law_whole"]) ⟨ok_l_bent_text T, T.g_l_bent_text, T.F_l_bent_text.kp⟩ hg (hr.mono (by decide)) tk T.B_l_bent_text (v_pen 1 (v_cons (e_nm 2) (v_nil)))) (al_cons (e_nm 2) (al_nil))))))) nd rfl rfl (by decide) (fun _ => rfl) (fun things => sg_own (ρ' := fun things1 => [.un, .pen, .d (.str (Str.ofString "try { try { try { mark a } else { - } } else { keep a } } else { del b }")), .d (.int turn), .d whole, .d bent, .own things1, .un, .un, .un, .un]) 6 11 (o_catOwn 6 ((o_lstL (al_cons (e_add (e_add (e_str (x := Str.ofString "try { ")) (e_nm 2)) (e_str (x := Str.ofString " } else { - }"))) (al_cons (e_add (e_add (e_nm 2) (e_str (x := Str.ofString "; "))) (e_nm 2)) (al_cons (e_add (e_repS (e_str (x := Str.ofString "mark a; ")) (e_int)) (e_str (x := Str.ofString "mark b"))) (al_nil))))).e)) nd rfl rfl (by decide) (fun _ => rfl) (fun things1 => sg_ifA (emb := (fun j1 : List D => [.un, .pen, .d (.str (Str.ofString "try { try { try { mark a } else { - } } else { keep a } } else { del b }")), .d (.int turn), .d whole, .d bent, .own j1, .un, .un, .un, .un])) (t_truth (e_isi .str (T.z_isinstance) (T.z_str) (by decide +kernel) (e_nm 5))) rfl
    (sg_app (f := (fun x => x)) (ρ' := fun app => [.un, .pen, .d (.str (Str.ofString "try { try { try { mark a } else { - } } else { keep a } } else { del b }")), .d (.int turn), .d whole, .d bent, .own (things1 ++ [app]), .un, .un, .un, .un]) (xs := things1) 6 11 (e_call (ps := ["_law_feed_here", "_law_whole"]) ⟨ok_l_bent_text T, T.g_l_bent_text, T.F_l_bent_text.kp⟩ hg (hr.mono (by decide)) tk T.B_l_bent_text (v_pen 1 (v_cons (e_nm 5) (v_nil)))) rfl rfl id_inj rfl (by decide) (fun _ => rfl) (fun app => sg_nil ⟨(things1 ++ [app]), rfl, (Le.same (Le.same (Le.same (Le.same (Le.same (Le.same (Le.same (Le.same (Le.same (Le.same (Le.same (Le.nil))))))))))))⟩))
    (sg_nil ⟨things1, rfl, (Le.same (Le.same (Le.same (Le.same (Le.same (Le.same (Le.same (Le.same (Le.same (Le.same (Le.same (Le.nil))))))))))))⟩)
    (fun j1 => sg_frz (ρ' := [.un, .pen, .d (.str (Str.ofString "try { try { try { mark a } else { - } } else { keep a } } else { del b }")), .d (.int turn), .d whole, .d bent, .d (.lst j1), .un, .un, .un, .un]) 6 rfl (sg_forIP (t := (.nm 10)) (f := (fun y : D => y)) (emb := (fun j2 : Unit => [.un, .pen, .d (.str (Str.ofString "try { try { try { mark a } else { - } } else { keep a } } else { del b }")), .d (.int turn), .d whole, .d bent, .d (.lst j1), .un, .un, .un, .un])) (e := (fun a j2 => [.un, .pen, .d (.str (Str.ofString "try { try { try { mark a } else { - } } else { keep a } } else { del b }")), .d (.int turn), .d whole, .d bent, .d (.lst j1), .un, .un, .un, .d a])) po rfl (w_seqZ (e_nm 6)) (g_nm 10 nd) rfl seqT_map id_inj (Le.same (Le.same (Le.same (Le.same (Le.same (Le.same (Le.same (Le.same (Le.same (Le.same (Le.same (Le.nil)))))))))))) (fun x j => rfl) (fun j a b h => id_inj _ _ (by have q := congrArg (·[10]?) h; exact SV.d.inj (Option.some.inj q)))
    (fun thing j2 => sg_asg (f := (fun x => x)) (ρ' := fun due => [.un, .pen, .d (.str (Str.ofString "try { try { try { mark a } else { - } } else { keep a } } else { del b }")), .d (.int turn), .d whole, .d bent, .d (.lst j1), .d due, .un, .un, .d thing]) 7 11 (e_repr (T.z_repr) hg hr (e_call (ps := ["_law_thing"]) ⟨ok_l_due T, T.g_l_due, T.F_l_due.kp⟩ hg (hr.mono (by decide)) tk T.B_l_due (v_cons (e_nm 10) (v_nil)))) (g_nm 7 nd) rfl id_inj rfl (by decide) (fun _ => rfl) (fun due => sg_if (t_cmp (cm_ne (u64 hr)) (e_repr (T.z_repr) hg hr (e_lamcall (a := "_law_ask") (k := 19) T.F_l_heard T.B_l_heard sc_l_heard rfl (.inl rfl) (walk_l_heard T (by decide)) T.g_l_heard hg tk TB_law (hcc.symm.trans T.code_law) (List.mem_of_getElem? (i := 0) rfl) (fun p hp e => by cases hp with | head => rfl | tail _ hp => cases hp) (hr.mono (by decide)) (lamS_by (by show lamSB (defScope s_law) _ = true; decide +kernel)) rfl (fun _ _ _ _ _ => rfl) (fun A outer s H E f c' hg hr => e_call (ps := ["text"]) ⟨ok_read_program T, T.g_read_program, T.F_read_program.kp⟩ hg (hr.mono (by decide)) (L2.takes_of rfl rfl rfl rfl) T.B_read_program (v_cons (e_nm 10) (v_nil))))) (e_nm 7)) rfl
    (sg_retP (d := (.bl false)) (e_bl) rfl ⟨ret (.out (.bl false)), ⟨ret (.bl false), rfl, rfl⟩, rfl⟩)
    (sg_push (sg_if (t_cmp (cm_ne (u64 hr)) (e_repr (T.z_repr) hg hr (e_lamcall (a := "_law_ask") (k := 19) T.F_l_heard T.B_l_heard sc_l_heard rfl (.inl rfl) (walk_l_heard T (by decide)) T.g_l_heard hg tk TB_law (hcc.symm.trans T.code_law) (List.mem_of_getElem? (i := 0) rfl) (fun p hp e => by cases hp with | head => rfl | tail _ hp => cases hp) (hr.mono (by decide)) (lamS_by (by show lamSB (defScope s_law) _ = true; decide +kernel)) rfl (fun _ _ _ _ _ => rfl) (fun A outer s H E f c' hg hr => e_callK0 (ps := ["text"]) ⟨ok_read_program T, T.g_read_program, T.F_read_program.kp⟩ hg (hr.mono (by decide)) (L2.takes_of rfl rfl rfl rfl) (kbd (n := 0) (ks := ["text"]) (order := [0]) T.F_read_program fun _ _ _ _ _ _ us ws h1 h2 => match us, ws, h1, h2 with | [], [_], _, _ => rfl) (kv_cons (e_nm 10) (kv_nil))))) (e_nm 7)) rfl
    (sg_retP (d := (.bl false)) (e_bl) rfl ⟨ret (.out (.bl false)), ⟨ret (.bl false), rfl, rfl⟩, rfl⟩)
    (sg_push (sg_nil ⟨(), rfl, (Le.same (Le.same (Le.same (Le.same (Le.same (Le.same (Le.same (Le.un (Le.same (Le.same (Le.un (Le.nil))))))))))))⟩))))))
    (fun j3 => sg_nil ⟨(), rfl, (Le.same (Le.same (Le.same (Le.un (Le.un (Le.un (Le.un (Le.same (Le.same (Le.same (Le.same (Le.nil))))))))))))⟩))))))))
    (fun j4 => sg_asg (f := .str) (ρ' := fun deepest => [.un, .pen, .d (.str (Str.ofString "try { try { try { mark a } else { - } } else { keep a } } else { del b }")), .un, .un, .un, .un, .un, .un, .d (.str deepest), .un]) 9 11 (e_add (e_add (e_repS (e_str (x := Str.ofString "try { ")) (e_int)) (e_str (x := Str.ofString "mark a"))) (e_repS (e_str (x := Str.ofString " } else { - }")) (e_int))) (g_nm 9 nd) rfl str_inj rfl (by decide) (fun _ => rfl) (fun deepest => sg_if (t_cmp (cm_ne (u64 hr)) (e_lamcall (a := "_law_ask") (k := 19) T.F_l_heard T.B_l_heard sc_l_heard rfl (.inl rfl) (walk_l_heard T (by decide)) T.g_l_heard hg tk TB_law (hcc.symm.trans T.code_law) (List.mem_of_getElem? (i := 0) rfl) (fun p hp e => by cases hp with | head => rfl | tail _ hp => cases hp) (hr.mono (by decide)) (lamS_by (by show lamSB (defScope s_law) _ = true; decide +kernel)) rfl (fun _ _ _ _ _ => rfl) (fun A outer s H E f c' hg hr => e_call (ps := ["text"]) ⟨ok_read_program T, T.g_read_program, T.F_read_program.kp⟩ hg (hr.mono (by decide)) (L2.takes_of rfl rfl rfl rfl) T.B_read_program (v_cons (e_nm 9) (v_nil)))) (e_tupL (al_cons (e_str (x := Str.ofString "text")) (al_cons (e_non) (al_nil))))) rfl
    (sg_retP (d := (.bl false)) (e_bl) rfl rfl)
    (sg_push (sg_asgP (d := (.str (Str.ofString "try { - } else { - }"))) (ρ' := [.un, .pen, .d (.str (Str.ofString "try { try { try { mark a } else { - } } else { keep a } } else { del b }")), .un, .un, .un, .un, .un, .d (.str (Str.ofString "try { - } else { - }")), .d (.str deepest), .un]) 8 (e_str (x := Str.ofString "try { - } else { - }")) (g_nm 8 nd) rfl rfl (sg_if (t_cmp (cm_ne (u64 hr)) (e_call (ps := ["text"]) ⟨ok_read_program T, T.g_read_program, T.F_read_program.kp⟩ hg (hr.mono (by decide)) tk T.B_read_program (v_cons (e_join (e_str (x := Str.ofString "; ")) (e_rep ((o_lstL (al_cons (e_nm 8) (al_nil))).e) (e_int))) (v_nil))) (e_rep (e_tupL (al_cons (e_tupL (al_cons (e_str (x := Str.ofString "try")) (al_cons (e_tupL (al_nil)) (al_cons (e_tupL (al_nil)) (al_nil))))) (al_nil))) (e_int))) rfl
    (sg_retP (d := (.bl false)) (e_bl) rfl rfl)
    (sg_push (sg_if (t_cmp (cm_ne (u64 hr)) (e_call (ps := ["text"]) ⟨ok_read_program T, T.g_read_program, T.F_read_program.kp⟩ hg (hr.mono (by decide)) tk T.B_read_program (v_cons (e_add (e_repS (e_str (x := Str.ofString "mark a; ")) (e_int)) (e_str (x := Str.ofString "mark b"))) (v_nil))) (e_add (e_rep (e_tupL (al_cons (e_tupL (al_cons (e_str (x := Str.ofString "mark")) (al_cons (e_str (x := Str.ofString "a")) (al_nil)))) (al_nil))) (e_int)) (e_tupL (al_cons (e_tupL (al_cons (e_str (x := Str.ofString "mark")) (al_cons (e_str (x := Str.ofString "b")) (al_nil)))) (al_nil))))) rfl
    (sg_retP (d := (.bl false)) (e_bl) rfl rfl)
    (sg_push (sg_retT (e_cmp (cm_eq (u64 hr)) (e_call (ps := ["text"]) ⟨ok_read_program T, T.g_read_program, T.F_read_program.kp⟩ hg (hr.mono (by decide)) tk T.B_read_program (v_cons (e_str (x := Str.ofString "try { keep a } else { - }; set x 1")) (v_nil))) (e_tupL (al_cons (e_tupL (al_cons (e_str (x := Str.ofString "try")) (al_cons (e_tupL (al_cons (e_tupL (al_cons (e_str (x := Str.ofString "keep")) (al_cons (e_str (x := Str.ofString "a")) (al_nil)))) (al_nil))) (al_cons (e_tupL (al_nil)) (al_nil))))) (al_cons (e_tupL (al_cons (e_str (x := Str.ofString "set")) (al_cons (e_str (x := Str.ofString "x")) (al_cons (e_int) (al_nil))))) (al_nil))))) rfl (fun _ => rfl))))))))))))) holds
end
end Q82

namespace Q82
open PySem PySem.Spec L2 PL
theorem is_word_eq (x : D) : d_is_word x = ret (.bl (wordB x)) := by
  unfold d_is_word
  cases x with
  | str s =>
    simp only [isT, lenI, codesD, bnd_ret, thenB_bl, blB_bl, orB_ret, Bool.not_true, Bool.false_or]
    by_cases h1 : 1 ≤ (s.length : Int)
    · by_cases h2 : (s.length : Int) ≤ 8
      · simp only [h1, h2, decide_true, Bool.and_self, Bool.not_true, Bool.false_eq_true, if_false]
        rw [mapP_ret (g := fun k => .bl (lower k)) (short8 h2) fun k _ => in_abc k, bnd_ret, all_bls]
        simp [wordB, h1, h2]
      · simp [h1, h2, wordB]
    · simp [h1, wordB]
  | _ => simp [isT, orB, bnd_ret, wordB]
theorem l_is_word_eq (x : D) : d_l_is_word x = ret (.bl (wordB x)) := by
  unfold d_l_is_word
  cases x with
  | str s =>
    simp only [isT, lenI, codesD, bnd_ret, thenB_bl, blB_bl, orB_ret, Bool.not_true, Bool.false_or]
    by_cases h1 : 1 ≤ (s.length : Int)
    · by_cases h2 : (s.length : Int) ≤ 8
      · simp only [h1, h2, decide_true, Bool.and_self, Bool.not_true, Bool.false_eq_true, if_false]
        rw [selP_ret (p := fun k => !lower k) (g := chD) (short8 h2) (fun k _ => by
          show bnd (thenB (ret (.bl (!decide ((Str.mk #[k]).cps.toList < (Str.ofString "a").cps.toList)))) (ret (.bl (!decide ((Str.ofString "z").cps.toList < (Str.mk #[k]).cps.toList))))) _ = _
          rw [(az k).1, (az k).2, thenB_bl, bnd_ret, blB_bl, bnd_ret, ← Bool.decide_and]
          rfl) (fun k _ _ => rfl), bnd_ret, eqB_nil, bnd_ret]
        congr 2
        simp only [wordB, h1, h2, decide_true, Bool.true_and]
        induction s.cps.toList with
        | nil => rfl
        | cons k l ih =>
          rw [List.filter_cons, List.all_cons]
          cases q : lower k with
          | true => simpa [q] using ih
          | false => simp [q]
      · simp [h1, h2, wordB]
    · simp [h1, wordB]
  | _ => simp [isT, orB, bnd_ret, wordB]
theorem is_integer_eq (x : D) : d_is_integer x = ret (.bl (match x with | .int _ => true | _ => false)) := by
  unfold d_is_integer
  cases x <;> rfl
theorem is_value_eq (x : D) : d_is_value x = ret (.bl (numB x)) := by
  unfold d_is_value d_is_between
  rw [is_integer_eq]
  cases x with
  | int i =>
    simp only [cl_ret, andD_t, leD_int, thenB_bl]
    rfl
  | _ => simp only [cl_ret, andD_f, numB]
theorem l_is_number_eq (x : D) : d_l_is_number x = ret (.bl (numB x)) := by
  unfold d_l_is_number
  cases x with
  | int i =>
    simp only [isT, Bool.not_false, andD_t, absD, bnd_ret, intI, numB]
    congr 2
    rw [← Bool.decide_and]
    apply decide_eq_decide.mpr
    by_cases h : i < 0
    · rw [if_pos h]
      omega
    · rw [if_neg h]
      omega
  | _ => simp [isT, andD, bnd_ret, tru_bl, numB]
theorem word_gen : Gen d_l_word 10 IsW := by
  unfold d_l_word
  simp only [bnd_bnd, bnd_ret]
  apply Gen.up
  · apply Gen.dr (by decide) (by decide); intro r _ _
    apply Gen.cond
    · intro _
      apply Gen.dr (by decide) (by decide); intro q h0 h1
      obtain ⟨k, hk, e⟩ := ixSZ (s := Str.ofString "abc") h0 (by rw [show (Str.ofString "abc").length = 3 by decide +kernel]; omega)
      rw [e]
      refine Gen.ret (IsW.ch ?_)
      rw [show (Str.ofString "abc").cps.toList = [97, 98, 99] by decide +kernel] at hk
      simp only [List.mem_cons, List.not_mem_nil, or_false] at hk
      rcases hk with rfl | rfl | rfl <;> rfl
    · intro _
      apply Gen.dr (by decide) (by decide); intro m h0 h1
      rw [rngI_ret (by omega), bnd_ret]
      apply Gen.bind (Gen.map (c := 1) (Q := fun y => ∃ k, y = .str ⟨#[k]⟩ ∧ lower k = true) 8 (by rw [rngZ_len]; omega) fun x _ => ?_)
      · intro ys hys
        obtain ⟨ks, rfl, e, hp⟩ := signs_ok hys.2
        have hl := hys.1
        rw [List.length_map, rngZ_len] at hl
        exact Gen.is (joinD_signs ks (by omega)) ⟨_, rfl, wordB_signs ks (by omega) (by omega) hp⟩
      · refine Gen.dr (c := 0) (by decide) (by decide) fun q h2 h3 => ?_
        obtain ⟨k, hk, e⟩ := ixSZ (s := Str.ofString "abcdefghijklmnopqrstuvwxyz") h2 (by rw [show (Str.ofString "abcdefghijklmnopqrstuvwxyz").length = 26 by decide +kernel]; omega)
        rw [e]
        exact Gen.ret ⟨k, rfl, lower_of hk⟩
  · decide
theorem number_gen : Gen d_l_number 2 IsN := by
  unfold d_l_number
  apply Gen.up
  · apply Gen.dr (by decide) (by decide); intro r h0 h1
    apply Gen.dr (by decide) (by decide); intro q h2 h3
    refine Gen.pickL0 h2 (by simp; omega) fun y hy => ?_
    simp only [List.mem_cons, List.not_mem_nil, or_false] at hy
    rcases hy with rfl | rfl | rfl | rfl <;> exact ⟨_, rfl, by simp only [numB, Bool.and_eq_true, decide_eq_true_eq]; omega⟩
  · decide
end Q82

namespace Q82
open PySem PySem.Spec L2 PL
/-! ### commands, tries -/
theorem in_four (a b c d e : Str) : inFlat false (.str a) (.tup [.str b, .str c, .str d, .str e]) = ret (.bl (b == a || (c == a || (d == a || e == a)))) := by
  show grd _ _ = _
  rw [grd_pos ⟨rfl, rfl⟩]
  simp [scEq]
def kindB (a : Str) : Bool := Str.ofString "del" == a || (Str.ofString "mark" == a || (Str.ofString "back" == a || Str.ofString "keep" == a))
def cmdB : D → Bool
  | .tup [.str a, w] => wordB w && kindB a
  | .tup [.str a, w, x] => wordB w && (a == Str.ofString "set") && numB x
  | _ => false
theorem kset : kindB (Str.ofString "set") = false := by decide +kernel
theorem set_or (a : Str) : a = Str.ofString "set" ∨ (a == Str.ofString "set") = false := by
  cases h : a == Str.ofString "set"
  · exact .inr rfl
  · exact .inl (eq_of_beq h)
def isStr : D → Bool
  | .str _ => true
  | _ => false
theorem isT_str (x : D) : isT .str x = isStr x := by cases x <;> rfl
theorem cmdB_head {x : D} {r : List D} (h : isStr x = false) : cmdB (.tup (x :: r)) = false := by
  cases x with
  | str _ => cases h
  | _ => rcases r with _ | ⟨_, _ | ⟨_, _ | _⟩⟩ <;> rfl
theorem is_command_eq (x : D) : d_is_command x = ret (.bl (cmdB x)) := by
  unfold d_is_command
  cases x with
  | tup xs =>
    rcases xs with _ | ⟨a, _ | ⟨w, r⟩⟩
    · rfl
    · simp only [isT, lenI_tup, bnd_ret, Bool.not_true, orB_f, List.length_cons, List.length_nil]
      cases a <;> rfl
    · have hl : decide ((((a :: w :: r).length : Nat) : Int) < 2) = false := by
        simp only [List.length_cons, decide_eq_false_iff_not]; omega
      cases ha : isStr a with
      | false =>
        simp only [lenI_tup, bnd_ret, hl, ix0, isT_str, ha, cmdB_head ha]
        rfl
      | true =>
        cases a with
        | str a =>
          simp only [lenI_tup, bnd_ret, hl, ix0, ix1, isT_str, isStr, is_word_eq, cl_ret, tru_bl, eqB_str, show isT .tup (.tup (.str a :: w :: r)) = true from rfl, orB_ret, Bool.not_true, Bool.false_or]
          cases hw : wordB w with
          | false =>
            rw [Bool.not_false, if_pos rfl]
            rcases r with _ | ⟨x, _ | _⟩ <;> simp [cmdB, hw]
          | true =>
            rw [Bool.not_true, if_neg (by decide)]
            rcases set_or a with rfl | h
            · rw [beq_self_eq_true, if_pos rfl]
              rcases r with _ | ⟨x, _ | ⟨y, r⟩⟩
              · simp [cmdB, hw, kset, andD_f]
              · simp [cmdB, hw, ix2, bnd_ret, is_value_eq, cl_ret, andD_t]
              · rw [decide_eq_false (by simp only [List.length_cons]; omega), andD_f]
                rfl
            · rw [h, if_neg (by decide)]
              rcases r with _ | ⟨x, r⟩
              · simp [cmdB, hw, andD_t, in_four, kindB]
              · rw [decide_eq_false (by simp only [List.length_cons]; omega), andD_f]
                rcases r with _ | ⟨y, r⟩
                · simp [cmdB, h]
                · rfl
        | _ => cases ha
  | _ => rfl
theorem in23 (i : Int) : inFlat true (.int i) (.tup [.int 2, .int 3]) = ret (.bl (!(decide (i = 2) || decide (i = 3)))) := by
  show grd _ _ = _
  rw [grd_pos ⟨rfl, rfl⟩]
  simp only [List.any_cons, List.any_nil, Bool.or_false, scEq]
  rw [show ((2 : Int) == i) = decide (i = 2) from by rw [Bool.beq_comm]; rfl, show ((3 : Int) == i) = decide (i = 3) from by rw [Bool.beq_comm]; rfl]
  rfl
theorem l_is_command_eq (x : D) : d_l_is_command x = ret (.bl (cmdB x)) := by
  cases x with
  | tup xs =>
    have fin : ∀ a w r, (∀ i : Int, i = ((a :: w :: r : List D).length : Nat) → (i = 2 ∨ i = 3)) → d_l_is_command (.tup (a :: w :: r)) = ret (.bl (cmdB (.tup (a :: w :: r)))) := by
      intro a w r hl
      have hl := hl _ rfl
      have hd : (!(decide ((((a :: w :: r).length : Nat) : Int) = 2) || decide ((((a :: w :: r).length : Nat) : Int) = 3))) = false := by
        rcases hl with h | h <;> simp only [h] <;> decide
      unfold d_l_is_command
      cases ha : isStr a with
      | false =>
        simp only [lenI_tup, bnd_ret, in23, blB_bl, hd, ix0, isT_str, ha, cmdB_head ha]
        rfl
      | true =>
        cases a with
        | str a =>
          simp only [lenI_tup, bnd_ret, in23, blB_bl, hd, ix0, ix1, isT_str, isStr, l_is_word_eq, cl_ret, tru_bl, eqB_str, show isT .tup (.tup (.str a :: w :: r)) = true from rfl, orB_ret, Bool.not_true, Bool.false_or, Bool.false_eq_true, if_false]
          rcases set_or a with rfl | h
          · rw [beq_self_eq_true, if_pos rfl]
            rcases r with _ | ⟨x, _ | ⟨y, r⟩⟩
            · rw [decide_eq_false (by simp only [List.length_cons, List.length_nil]; omega), andD_f]
              simp [cmdB, kset]
            · rw [show decide (((([.str (Str.ofString "set"), w, x] : List D).length : Nat) : Int) = 3) = true from rfl, andD_t]
              cases hw : wordB w with
              | false => rw [andD_f]; simp [cmdB, hw]
              | true => rw [andD_t, ix2, bnd_ret, l_is_number_eq, cl_ret]; simp [cmdB, hw]
            · rw [decide_eq_false (by simp only [List.length_cons]; omega), andD_f]
              rfl
          · rw [h, if_neg (by decide)]
            rcases r with _ | ⟨x, r⟩
            · rw [show decide (((([.str a, w] : List D).length : Nat) : Int) = 2) = true from rfl, andD_t, in_four]
              show andD (ret (.bl (kindB a))) _ = _
              cases hk : kindB a with
              | false => rw [andD_f]; simp [cmdB, hk]
              | true => rw [andD_t]; simp [cmdB, hk]
            · rw [decide_eq_false (by simp only [List.length_cons]; omega), andD_f]
              rcases r with _ | ⟨y, r⟩
              · simp [cmdB, h]
              · rfl
        | _ => cases ha
    rcases xs with _ | ⟨a, _ | ⟨w, _ | ⟨x, _ | ⟨y, r⟩⟩⟩⟩
    · unfold d_l_is_command
      rw [lenI_tup, bnd_ret, in23, bnd_ret, blB_bl]; rfl
    · unfold d_l_is_command
      rw [lenI_tup, bnd_ret, in23, bnd_ret, blB_bl]
      cases a <;> rfl
    · exact fin a w [] (fun i hi => .inl (by rw [hi]; rfl))
    · exact fin a w [x] (fun i hi => .inr (by rw [hi]; rfl))
    · unfold d_l_is_command
      rw [lenI_tup, bnd_ret, in23, bnd_ret, blB_bl, decide_eq_false (by simp only [List.length_cons]; omega), decide_eq_false (by simp only [List.length_cons]; omega)]
      cases a <;> rfl
  | _ => unfold d_l_is_command; rfl
theorem cmdB_ok {x : D} (h : cmdB x = true) : Sz 40 2 x ∧ ∃ xs, x = .tup xs := by
  have four : ∀ a : Str, kindB a = true → Sz 8 1 (.str a) := fun a ha => by
    have : a = Str.ofString "del" ∨ a = Str.ofString "mark" ∨ a = Str.ofString "back" ∨ a = Str.ofString "keep" := by
      unfold kindB at ha
      simp only [Bool.or_eq_true, beq_iff_eq] at ha
      rcases ha with h | h | h | h
      · exact .inl h.symm
      · exact .inr (.inl h.symm)
      · exact .inr (.inr (.inl h.symm))
      · exact .inr (.inr (.inr h.symm))
    rcases this with rfl | rfl | rfl | rfl <;> exact Sz.str (by decide +kernel) (by decide +kernel)
  unfold cmdB at h
  split at h
  · rename_i a w
    rw [Bool.and_eq_true] at h
    have hw : IsW w := by
      cases w with
      | str s => exact ⟨s, rfl, h.1⟩
      | _ => simp [wordB] at h
    have h1 := four a h.2
    have h2 : Sz 8 1 w := hw.ok
    refine ⟨Sz.tup (.cons h1.pt (.cons h2.pt .nil)) ?_, _, rfl⟩
    rw [bulks_cons, bulks_cons, bulks_nil]
    have := h1.2.1; have := h2.2.1
    omega
  · rename_i a w x
    simp only [Bool.and_eq_true] at h
    have hw : IsW w := by
      cases w with
      | str s => exact ⟨s, rfl, h.1.1⟩
      | _ => simp [wordB] at h
    have hx : IsN x := by
      cases x with
      | int i => exact ⟨i, rfl, h.2⟩
      | _ => simp [numB] at h
    obtain rfl : a = Str.ofString "set" := eq_of_beq h.1.2
    have h1 : Sz 8 1 (.str (Str.ofString "set")) := Sz.str (by decide +kernel) (by decide +kernel)
    have h2 : Sz 8 1 w := hw.ok
    have h3 : Sz 8 1 x := hx.ok
    refine ⟨Sz.tup (.cons h1.pt (.cons h2.pt (.cons h3.pt .nil))) ?_, _, rfl⟩
    rw [bulks_cons, bulks_cons, bulks_cons, bulks_nil]
    have := h1.2.1; have := h2.2.1; have := h3.2.1
    omega
  · cases h
/-! ### texts cut -/
theorem cutS_drop (z : Str) (r : Nat) : (cutS z (some (r : Int)) none).cps.toList = z.cps.toList.drop r := by
  unfold cutS
  have hl : z.cps.toList.length = z.length := Array.length_toList
  rw [HT.sIx_none, HT.sIx_nat]
  show ((z.cps.toList.drop (min r z.length)).take (z.length - min r z.length)) = _
  by_cases h : r ≤ z.length
  · rw [Nat.min_eq_left h, List.take_of_length_le (by rw [List.length_drop]; omega)]
  · rw [Nat.min_eq_right (by omega), List.drop_of_length_le (by omega), List.drop_of_length_le (by omega), List.take_nil]
theorem cutS_take (z : Str) (r : Nat) : (cutS z none (some (r : Int))).cps.toList = z.cps.toList.take r := by
  unfold cutS
  have hl : z.cps.toList.length = z.length := Array.length_toList
  rw [HT.sIx_none, HT.sIx_nat]
  show ((z.cps.toList.drop 0).take (min r z.length - 0)) = _
  rw [List.drop_zero, Nat.sub_zero]
  by_cases h : r ≤ z.length
  · rw [Nat.min_eq_left h]
  · rw [Nat.min_eq_right (by omega), List.take_of_length_le (by omega), List.take_of_length_le (by omega)]
theorem len_list (z : Str) : z.cps.toList.length = z.length := Array.length_toList
theorem str_ext {a b : Str} (h : a.cps.toList = b.cps.toList) : a = b := Str.ext' (Array.toList_inj.mp h)
theorem cutS_0 (z : Str) : cutS z (some 0) none = z := str_ext ((cutS_drop z 0).trans List.drop_zero)
theorem slD_str (z : Str) (lo hi : Option Int) : slD (.str z) lo hi = ret (.str (cutS z lo hi)) := rfl
theorem cut_le (z : Str) (lo hi : Option Int) : (cutS z lo hi).length ≤ z.length := by
  rw [← len_list, ← len_list]
  unfold cutS
  show ((z.cps.toList.drop _).take _).length ≤ _
  rw [List.length_take, List.length_drop]
  omega
theorem orB0 (m : W Bool) : orB (ret false) m = m := rfl
theorem orB1 (m : W Bool) : orB (ret true) m = ret true := rfl
theorem andB0 (m : W Bool) : andB (ret false) m = ret false := rfl
theorem andB1 (m : W Bool) : andB (ret true) m = m := rfl
/-! ### numbers read -/
def dig (k : Nat) : Bool := decide (48 ≤ k ∧ k ≤ 57)
theorem digs : (Str.ofString "0123456789").cps.toList = [48, 49, 50, 51, 52, 53, 54, 55, 56, 57] := by decide +kernel
theorem dig_in (k : Nat) : decide (k ∈ (Str.ofString "0123456789").cps.toList) = dig k := by
  rw [digs]
  unfold dig
  apply decide_eq_decide.mpr
  simp only [List.mem_cons, List.not_mem_nil, or_false]
  omega
theorem in_dig (k : Nat) : inStr false (chD k) (.str (Str.ofString "0123456789")) = ret (.bl (dig k)) := by
  show PL.ret (D.bl (decide (k ∈ (Str.ofString "0123456789").cps.toList))) = _
  rw [dig_in]
theorem notin_dig (k : Nat) : inStr true (chD k) (.str (Str.ofString "0123456789")) = ret (.bl (!dig k)) := by
  show PL.ret (D.bl (!decide (k ∈ (Str.ofString "0123456789").cps.toList))) = _
  rw [dig_in]
abbrev tMin : Str := Str.ofString "-"
abbrev tZero : Str := Str.ofString "0"
def minB (a : Str) : Bool := cutS a none (some 1) == tMin
def ds (a : Str) : Str := if minB a = true then cutS a (some 1) none else a
def okN (d : Str) : Bool := (decide (1 ≤ (d.length : Int)) && decide ((d.length : Int) ≤ 60)) && d.cps.toList.all dig
def headB (d : Str) : Bool := match d.cps.toList with
  | c :: _ => (⟨#[c]⟩ : Str) == tZero
  | [] => false
def numT (a : Str) : D := match PySem.intText? a with
  | some n => .int n
  | none => .non
def nIn (a : Str) : D := if okN (ds a) = true then (if (headB (ds a) && !(a == tZero)) = true then .non else numT a) else .non
theorem ds_le (a : Str) : (ds a).length ≤ a.length := by
  unfold ds
  split
  · exact cut_le ..
  · exact Nat.le_refl _
theorem ds_law (a : Str) : cutS a (some (if minB a then 1 else 0)) none = ds a := by
  unfold ds
  cases minB a with
  | true => rfl
  | false => exact cutS_0 a
theorem min_shape {a : Str} (h : minB a = true) : a.cps.toList = 45 :: (ds a).cps.toList := by
  have e1 : (cutS a none (some 1)).cps.toList = [45] := by
    rw [eq_of_beq (show (cutS a none (some 1) == tMin) = true from h)]
    decide +kernel
  have e2 := cutS_take a 1
  have e3 : (ds a).cps.toList = a.cps.toList.drop 1 := by
    unfold ds
    rw [if_pos h]
    exact cutS_drop a 1
  rw [e3]
  have e4 : a.cps.toList.take 1 = [45] := e2.symm.trans e1
  cases q : a.cps.toList with
  | nil => rw [q] at e4; cases e4
  | cons c r =>
    rw [q] at e4
    cases e4
    rfl
theorem num_text {a : Str} (h : okN (ds a) = true) : a.length ≤ 640 ∧ ∃ n, PySem.intText? a = some n := by
  unfold okN at h
  simp only [Bool.and_eq_true, decide_eq_true_eq, List.all_eq_true] at h
  obtain ⟨⟨h1, h2⟩, h3⟩ := h
  have hd : NumText.AllDigits (ds a).cps.toList := fun c hc => by
    have := h3 c hc
    simpa [dig] using this
  have hl := len_list (ds a)
  have hn : (ds a).cps.toList ≠ [] := fun z => by rw [z] at hl; simp at hl; omega
  cases hm : minB a with
  | true =>
    have e := min_shape hm
    have hl2 := len_list a
    rw [e, List.length_cons, hl] at hl2
    exact ⟨by omega, _, PySem.intText_neg e hd hn (by omega)⟩
  | false =>
    have e : ds a = a := by unfold ds; rw [hm]; rfl
    rw [e] at hd hn h2
    exact ⟨by omega, _, PySem.intText_digits hd hn (by omega)⟩
theorem int_ret {a : Str} (h : okN (ds a) = true) : intTW (.str a) = ret (numT a) := by
  obtain ⟨h1, n, e⟩ := num_text h
  show (match PySem.intText? a with | some n => grd (a.length ≤ 640) (ret (D.int n)) | none => (stuck : W D)) = _
  unfold numT
  rw [e]
  exact grd_pos h1 _
theorem head_ret {d : Str} (h : okN d = true) : bnd (ixD (.str d) (.int 0)) (fun y1 => eqB y1 (.str tZero)) = ret (headB d) := by
  unfold okN at h
  simp only [Bool.and_eq_true, decide_eq_true_eq] at h
  have hl := len_list d
  cases e : d.cps.toList with
  | nil => rw [e] at hl; simp at hl; omega
  | cons c r =>
    rw [ix_s (k := c) (by rw [e]; exact atI_nat (j := 0) rfl), bnd_ret, eqB_str]
    unfold headB
    rw [e]
theorem number_in_eq (a : Str) : d_number_in (.str a) = ret (nIn a) := by
  unfold d_number_in
  have e0 : bnd (slD (.str a) none (some 1)) (fun s => bnd (eqB s (.str tMin)) fun k => if k = true then slD (.str a) (some 1) none else ret (.str a)) = ret (.str (ds a)) := by
    rw [slD_str, bnd_ret, eqB_str, bnd_ret]
    unfold ds
    show (if minB a = true then _ else _) = _
    cases minB a <;> rfl
  have e1 : orB (bnd (lenI (.str (ds a))) fun n => bnd (thenB (ret (.bl (decide (1 ≤ n)))) (ret (.bl (decide (n ≤ 60))))) fun k1 => bnd (blB k1) fun k2 => ret (!k2)) (bnd (codesD (.str (ds a))) fun ks => bnd (mapP (fun sign => inStr false (chD sign) (.str (Str.ofString "0123456789"))) ks) fun xs => bnd (allD (.lst xs)) fun y => bnd (tru y) fun k4 => ret (!k4)) = ret (!okN (ds a)) := by
    simp only [lenI, codesD, bnd_ret, thenB_bl, blB_bl, orB_ret]
    by_cases h1 : 1 ≤ ((ds a).length : Int)
    · by_cases h2 : ((ds a).length : Int) ≤ 60
      · simp only [h1, h2, decide_true, Bool.and_self, Bool.not_true, Bool.false_eq_true, if_false]
        rw [mapP_ret (g := fun k => .bl (dig k)) (by rw [len_list]; omega) fun k _ => in_dig k, bnd_ret, all_bls]
        rw [orB0]
        simp [okN, h1, h2, bnd_ret, tru_bl]
      · simp only [h1, h2, decide_true, decide_false, Bool.and_false, Bool.not_false]
        rw [orB1]
        simp [okN, h2]
    · simp only [h1, decide_false, Bool.false_and, Bool.not_false]
      rw [orB1]
      simp [okN, h1]
  rw [e0, bnd_ret, e1, bnd_ret]
  unfold nIn
  cases h : okN (ds a) with
  | false => rfl
  | true =>
    rw [Bool.not_true, if_neg (by decide), if_pos rfl, head_ret h, neB_str]
    cases hh : headB (ds a) with
    | false =>
      rw [andB0, bnd_ret, if_neg (by decide), Bool.false_and, if_neg (by decide), int_ret h]
    | true =>
      rw [andB1, bnd_ret, Bool.true_and]
      cases !(a == tZero) with
      | true => rfl
      | false =>
        show intTW (.str a) = _
        rw [int_ret h]
        rfl
theorem l_number_in_eq {a : Str} (hz : a.length ≤ 1000000) : d_l_number_in (.str a) = ret (nIn a) := by
  unfold d_l_number_in
  have e0 : bnd (slD (.str a) none (some 1)) (fun s => bnd (eqB s (.str tMin)) fun k => slD (.str a) (some (if k then 1 else 0)) none) = ret (.str (ds a)) := by
    rw [slD_str, bnd_ret, eqB_str, bnd_ret, slD_str]
    show ret (D.str (cutS a (some (if minB a then 1 else 0)) none)) = _
    rw [ds_law]
  have e1 : orB (eqB (.str (ds a)) (.str (Str.ofString ""))) (orB (bnd (codesD (.str (ds a))) fun ks => bnd (selP (fun sign => bnd (inStr true (chD sign) (.str (Str.ofString "0123456789"))) fun k2 => bnd (blB k2) fun k3 => ret k3) (fun sign => ret (chD sign)) ks) fun xs => neB (.lst xs) (.lst [])) (bnd (lenI (.str (ds a))) fun n => ret (decide (60 < n)))) = ret (!okN (ds a)) := by
    have hd := ds_le a
    have hl := len_list (ds a)
    have hem : ((ds a) == Str.ofString "") = !decide (1 ≤ ((ds a).length : Int)) := by
      cases e : (ds a).cps.toList with
      | nil =>
        rw [e] at hl
        have : ds a = Str.ofString "" := str_ext (by rw [e]; decide +kernel)
        rw [this]
        decide +kernel
      | cons c r =>
        rw [e, List.length_cons] at hl
        rw [decide_eq_true (by omega)]
        apply beq_eq_false_iff_ne.mpr
        intro z
        rw [z] at e
        exact absurd e (by rw [show (Str.ofString "").cps.toList = [] by decide +kernel]; exact fun z => nomatch z)
    have es : selP (fun sign => bnd (inStr true (chD sign) (.str (Str.ofString "0123456789"))) fun k2 => bnd (blB k2) fun k3 => ret k3) (fun sign => ret (chD sign)) (ds a).cps.toList = ret (((ds a).cps.toList.filter fun k => !dig k).map chD) :=
      selP_ret (by omega) (fun k _ => by rw [notin_dig, bnd_ret, blB_bl, bnd_ret]) fun k _ _ => rfl
    have en : (!(((ds a).cps.toList.filter fun k => !dig k).map chD).isEmpty) = !(ds a).cps.toList.all dig := by
      congr 1
      induction (ds a).cps.toList with
      | nil => rfl
      | cons k l ih =>
        rw [List.filter_cons, List.all_cons]
        cases q : dig k with
        | true => simpa [q] using ih
        | false => simp [q]
    rw [eqB_str, hem]
    show orB _ (orB (bnd (ret _) fun ks => _) _) = _
    rw [bnd_ret, es, bnd_ret, neB_nil, en]
    simp only [lenI, bnd_ret, orB_ret, okN]
    congr 1
    rw [show decide (60 < ((ds a).length : Int)) = !decide (((ds a).length : Int) ≤ 60) by rw [← decide_not]; apply decide_eq_decide.mpr; omega]
    cases decide (1 ≤ ((ds a).length : Int)) <;> cases decide (((ds a).length : Int) ≤ 60) <;> cases (ds a).cps.toList.all dig <;> rfl
  rw [e0, bnd_ret, e1, bnd_ret]
  unfold nIn
  cases h : okN (ds a) with
  | false => rfl
  | true =>
    rw [Bool.not_true, if_neg (by decide), if_pos rfl, head_ret h, neB_str]
    cases hh : headB (ds a) with
    | false =>
      rw [andB0, bnd_ret, if_neg (by decide), Bool.false_and, if_neg (by decide), int_ret h]
    | true =>
      rw [andB1, bnd_ret, Bool.true_and]
      cases !(a == tZero) with
      | true => rfl
      | false =>
        show intTW (.str a) = _
        rw [int_ret h]
        rfl
end Q82

namespace Q82
open PySem PySem.Spec L2 PL
/-! ### texts as lists of signs -/
abbrev wTry : Str := Str.ofString "try"
abbrev wSetS : Str := Str.ofString "set"
abbrev wOpen : Str := Str.ofString "{"
abbrev wShut : Str := Str.ofString "}"
abbrev wShutS : Str := Str.ofString "};"
abbrev wElse : Str := Str.ofString "else"
abbrev mkS (l : List Nat) : Str := ⟨l.toArray⟩
theorem tl_mkS (l : List Nat) : TL.tl (mkS l) = l := rfl
theorem mkS_tl (w : Str) : mkS (TL.tl w) = w := TL.mk_tl w
def J (ws : List Str) : List Nat := TL.joinL [32] (ws.map TL.tl)
def R (ws : List Str) : List Nat := match ws with
  | [] => []
  | _ :: _ => 32 :: J ws
def Sf (ws : List Str) : Prop := ∀ w ∈ ws, 32 ∉ TL.tl w
theorem J_cons (w : Str) (r : List Str) : J (w :: r) = TL.tl w ++ R r := by
  cases r with
  | nil => show TL.tl w = _; rw [show R [] = [] from rfl, List.append_nil]
  | cons v r => rfl
theorem J_app : ∀ {a : List Str} (b : List Str), a ≠ [] → J (a ++ b) = J a ++ R b
  | [], _, h => absurd rfl h
  | [w], b, _ => by
    rw [List.cons_append, List.nil_append, J_cons, J_cons, show R [] = [] from rfl, List.append_nil]
  | w :: v :: r, b, _ => by
    have ih := J_app (a := v :: r) b (fun z => nomatch z)
    rw [List.cons_append, J_cons, J_cons, List.append_assoc]
    congr 1
    show 32 :: J (v :: r ++ b) = 32 :: J (v :: r) ++ R b
    rw [ih]
    rfl
theorem J_last (pre : List Str) (v w : Str) (x : List Nat) (h : TL.tl w = TL.tl v ++ x) : J (pre ++ [w]) = J (pre ++ [v]) ++ x := by
  cases pre with
  | nil => rw [List.nil_append, List.nil_append, J_cons, J_cons, h, show R [] = [] from rfl, List.append_nil, List.append_nil]
  | cons p pre =>
    rw [J_app (a := p :: pre) [w] (fun z => nomatch z), J_app (a := p :: pre) [v] (fun z => nomatch z)]
    have e1 : ∀ u : Str, R [u] = 32 :: TL.tl u := fun u => rfl
    rw [e1, e1, h, List.append_assoc]
    rfl
theorem spl_J {ws : List Str} (hne : ws ≠ []) (h : Sf ws) : TL.spl [32] 0 [] (J ws) = ws.map TL.tl :=
  TL.spl_join (fun z => hne (List.map_eq_nil_iff.mp z)) fun p hp => by
    obtain ⟨w, hw, rfl⟩ := List.mem_map.mp hp
    exact h w hw
theorem J_inj {a b : List Str} (ha : a ≠ []) (hb : b ≠ []) (sa : Sf a) (sb : Sf b) (e : J a = J b) : a = b := by
  have h := congrArg (TL.spl [32] 0 []) e
  rw [spl_J ha sa, spl_J hb sb] at h
  exact TL.map_tl_inj h
/-- the words of a text -/
def wordsL (s : List Nat) : List Str := (TL.spl [32] 0 [] s).map mkS
theorem spl_ne : ∀ (k : Nat) (acc l : List Nat), TL.spl [32] k acc l ≠ [] := by
  intro k acc l
  induction l generalizing k acc with
  | nil => rw [TL.spl_nil]; exact fun z => nomatch z
  | cons c l ih =>
    cases k with
    | zero =>
      cases hp : TL.pre [32] (c :: l) with
      | true => rw [TL.spl_hit hp]; exact fun z => nomatch z
      | false => rw [TL.spl_miss hp]; exact ih _ _
    | succ k => exact ih k acc
theorem spl_good : ∀ (l acc : List Nat), 32 ∉ acc → (∀ p ∈ TL.spl [32] 0 acc l, 32 ∉ p) ∧ TL.joinL [32] (TL.spl [32] 0 acc l) = acc ++ l
  | [], acc, h => by
    rw [TL.spl_nil, List.append_nil]
    exact ⟨fun p hp => by rw [List.mem_singleton.mp hp]; exact h, rfl⟩
  | c :: l, acc, h => by
    by_cases hc : c = 32
    · subst hc
      have hp : TL.pre [32] (32 :: l) = true := TL.pre_self [32] l
      rw [TL.spl_hit hp]
      obtain ⟨h1, h2⟩ := spl_good l [] (fun z => nomatch z)
      refine ⟨fun p hp => (List.mem_cons.mp hp).elim (fun e => e ▸ h) (h1 p), ?_⟩
      show TL.joinL [32] (acc :: TL.spl [32] 0 [] l) = _
      cases q : TL.spl [32] 0 [] l with
      | nil => exact absurd q (spl_ne _ _ _)
      | cons x r =>
        show acc ++ ([32] ++ TL.joinL [32] (x :: r)) = _
        rw [← q, h2]
        rfl
    · rw [TL.spl_miss (TL.pre_of_head _ _ hc)]
      obtain ⟨h1, h2⟩ := spl_good l (acc ++ [c]) (fun z => by
        rcases List.mem_append.mp z with z | z
        · exact h z
        · exact hc (List.mem_singleton.mp z).symm)
      exact ⟨h1, by rw [h2, List.append_assoc]; rfl⟩
theorem map_mkS (l : List (List Nat)) : (l.map mkS).map TL.tl = l := by
  rw [List.map_map]
  exact (List.map_congr_left fun x _ => rfl).trans (List.map_id l)
theorem words_ok (s : List Nat) : wordsL s ≠ [] ∧ Sf (wordsL s) ∧ J (wordsL s) = s := by
  obtain ⟨h1, h2⟩ := spl_good s [] (fun z => nomatch z)
  refine ⟨fun z => spl_ne _ _ _ (List.map_eq_nil_iff.mp z), fun w hw => ?_, ?_⟩
  · obtain ⟨p, hp, rfl⟩ := List.mem_map.mp hw
    exact h1 p hp
  · unfold J wordsL
    rw [map_mkS, h2]
    rfl
theorem words_J {ws : List Str} (hne : ws ≠ []) (h : Sf ws) : wordsL (J ws) = ws := by
  obtain ⟨h1, h2, h3⟩ := words_ok (J ws)
  exact J_inj h1 hne h2 h h3
theorem Sf.tail {w : Str} {r : List Str} (h : Sf (w :: r)) : Sf r := fun v hv => h v (List.mem_cons_of_mem _ hv)
theorem Sf.app {a b : List Str} (h : Sf (a ++ b)) : Sf a ∧ Sf b := ⟨fun v hv => h v (List.mem_append_left _ hv), fun v hv => h v (List.mem_append_right _ hv)⟩
/-! ### a word ahead -/
theorem same_word : ∀ {x y t : List Nat} {r : List Str}, 32 ∉ x → 32 ∉ y → x ++ 32 :: t = y ++ R r → x = y ∧ R r = 32 :: t
  | [], [], t, r, _, _, e => ⟨rfl, e.symm⟩
  | [], c :: y, t, r, _, hy, e => by
    exfalso
    have e : 32 :: t = c :: (y ++ R r) := e
    exact hy (by rw [(List.cons.inj e).1]; exact List.mem_cons_self)
  | c :: x, [], t, r, hx, _, e => by
    exfalso
    have e : c :: (x ++ 32 :: t) = R r := e
    cases r with
    | nil => cases e
    | cons w r => exact hx (by rw [(List.cons.inj e).1]; exact List.mem_cons_self)
  | c :: x, d :: y, t, r, hx, hy, e => by
    have e : c :: (x ++ 32 :: t) = d :: (y ++ R r) := e
    obtain ⟨e1, e2⟩ := List.cons.inj e
    obtain ⟨h1, h2⟩ := same_word (fun z => hx (List.mem_cons_of_mem _ z)) (fun z => hy (List.mem_cons_of_mem _ z)) e2
    exact ⟨by rw [e1, h1], h2⟩
theorem R_cons {r : List Str} {t : List Nat} (h : R r = 32 :: t) : r ≠ [] ∧ t = J r := by
  cases r with
  | nil => cases h
  | cons w r => exact ⟨fun z => (nomatch z), (List.cons.inj h).2.symm⟩
/-- the first word and the sign behind it -/
theorem pre_word {x t : List Nat} {w : Str} {r : List Str} (hx : 32 ∉ x) (hw : 32 ∉ TL.tl w) (e : J (w :: r) = x ++ 32 :: t) : w = mkS x ∧ r ≠ [] ∧ t = J r := by
  rw [J_cons] at e
  obtain ⟨h1, h2⟩ := same_word hx hw e.symm
  obtain ⟨h3, h4⟩ := R_cons h2
  exact ⟨by rw [h1, mkS_tl], h3, h4⟩
theorem take_iff {s p : List Nat} : s.take p.length = p ↔ ∃ t, s = p ++ t := by
  constructor
  · intro h
    exact ⟨s.drop p.length, by have q := List.take_append_drop p.length s; rw [h] at q; exact q.symm⟩
  · rintro ⟨t, rfl⟩
    simp
abbrev tryW : List Nat := [116, 114, 121, 32, 123, 32]
abbrev elseW : List Nat := [32, 125, 32, 101, 108, 115, 101, 32, 123, 32]
abbrev endW : List Nat := [32, 125]
theorem tl_try : TL.tl wTry = [116, 114, 121] := by decide +kernel
theorem tl_open : TL.tl wOpen = [123] := by decide +kernel
theorem tl_shut : TL.tl wShut = [125] := by decide +kernel
theorem tl_shutS : TL.tl wShutS = [125, 59] := by decide +kernel
theorem tl_else : TL.tl wElse = [101, 108, 115, 101] := by decide +kernel
theorem str_of {w : Str} {l : List Nat} {v : Str} (h : w = mkS l) (hv : TL.tl v = l) : w = v := TL.ext_tl (by rw [h, hv])
theorem try_ahead {ws : List Str} (hne : ws ≠ []) (hs : Sf ws) : ((J ws).take 6 = tryW ↔ ∃ r, r ≠ [] ∧ ws = wTry :: wOpen :: r) ∧ ∀ r, r ≠ [] → ws = wTry :: wOpen :: r → (J ws).drop 6 = J r := by
  have fw : ∀ r, r ≠ [] → J (wTry :: wOpen :: r) = tryW ++ J r := fun r hr => by
    rw [J_cons, tl_try]
    show [116, 114, 121] ++ 32 :: J (wOpen :: r) = _
    rw [J_cons, tl_open]
    cases r with
    | nil => exact absurd rfl hr
    | cons v r => rfl
  refine ⟨⟨fun h => ?_, fun ⟨r, hr, e⟩ => by rw [e, fw r hr]; rfl⟩, fun r hr e => by rw [e, fw r hr]; rfl⟩
  obtain ⟨t, e⟩ := (take_iff (p := tryW)).mp h
  cases ws with
  | nil => exact absurd rfl hne
  | cons w r =>
    obtain ⟨h1, h2, h3⟩ := pre_word (x := [116, 114, 121]) (t := 123 :: 32 :: t) (by decide) (hs w List.mem_cons_self) e
    cases r with
    | nil => exact absurd rfl h2
    | cons v r =>
      obtain ⟨h4, h5, h6⟩ := pre_word (x := [123]) (t := t) (by decide) (hs v (by simp)) h3.symm
      exact ⟨r, h5, by rw [str_of h1 tl_try, str_of h4 tl_open]⟩
theorem else_ahead {ws : List Str} (hs : Sf ws) : ((R ws).take 10 = elseW ↔ ∃ r, r ≠ [] ∧ ws = wShut :: wElse :: wOpen :: r) ∧ ∀ r, r ≠ [] → ws = wShut :: wElse :: wOpen :: r → (R ws).drop 10 = J r := by
  have fw : ∀ r, r ≠ [] → R (wShut :: wElse :: wOpen :: r) = elseW ++ J r := fun r hr => by
    show 32 :: J (wShut :: wElse :: wOpen :: r) = _
    rw [J_cons, tl_shut]
    show 32 :: ([125] ++ 32 :: J (wElse :: wOpen :: r)) = _
    rw [J_cons, tl_else]
    show 32 :: ([125] ++ 32 :: ([101, 108, 115, 101] ++ 32 :: J (wOpen :: r))) = _
    rw [J_cons, tl_open]
    cases r with
    | nil => exact absurd rfl hr
    | cons v r => rfl
  refine ⟨⟨fun h => ?_, fun ⟨r, hr, e⟩ => by rw [e, fw r hr]; rfl⟩, fun r hr e => by rw [e, fw r hr]; rfl⟩
  obtain ⟨t, e⟩ := (take_iff (p := elseW)).mp h
  cases ws with
  | nil => cases e
  | cons w r =>
    have e : 32 :: J (w :: r) = 32 :: ([125] ++ 32 :: ([101, 108, 115, 101] ++ 32 :: ([123] ++ 32 :: t))) := e
    obtain ⟨h1, h2, h3⟩ := pre_word (x := [125]) (by decide) (hs w List.mem_cons_self) (List.cons.inj e).2
    cases r with
    | nil => exact absurd rfl h2
    | cons v r =>
      obtain ⟨h4, h5, h6⟩ := pre_word (x := [101, 108, 115, 101]) (by decide) (hs v (by simp)) h3.symm
      cases r with
      | nil => exact absurd rfl h5
      | cons u r =>
        obtain ⟨h7, h8, h9⟩ := pre_word (x := [123]) (t := t) (by decide) (hs u (by simp)) h6.symm
        exact ⟨r, h8, by rw [str_of h1 tl_shut, str_of h4 tl_else, str_of h7 tl_open]⟩
end Q82

namespace Q82
open PySem PySem.Spec L2 PL
/-! ### commands read -/
abbrev tSp : Str := Str.ofString " "
abbrev tSemi : Str := Str.ofString "; "
abbrev tSet : Str := Str.ofString "set"
def Big : Nat := 900000
theorem len_sp : (tSp.length == 0) = false := by decide +kernel
theorem split_ret {a b : Str} (hb : (b.length == 0) = false) (h : a.length ≤ Big) : splitW (.str a) (.str b) = ret ((Txt.split a b).map D.str) := grd_pos ⟨hb, by rw [sizeLine_eq]; unfold Big at h; omega⟩ _
theorem split_len {a b : Str} (h : a.length ≤ Big) : (Txt.split a b).length ≤ 900002 := by
  have := PyProof.Rows.split_le a b
  unfold Big at h
  omega
def argsOf (ws : List Str) : List D := match ws with
  | [w0, w1, w2] => if (w0 == tSet) = true then [.str tSet, .str w1, nIn w2] else ws.map D.str
  | _ => ws.map D.str
def cIn (ws : List Str) : D := if cmdB (.tup (argsOf ws)) = true then .tup (argsOf ws) else .non
theorem cIn_cases (ws : List Str) : (cIn ws = .non) ∨ (cmdB (cIn ws) = true) := by
  unfold cIn
  cases h : cmdB (.tup (argsOf ws)) with
  | true => exact .inr h
  | false => exact .inl rfl
theorem isNone_cIn (ws : List Str) : isNone (cIn ws) = !cmdB (cIn ws) := by
  unfold cIn
  cases h : cmdB (.tup (argsOf ws)) with
  | true => simp [h, isNone]
  | false => rfl
theorem iL0 (x : D) (xs : List D) : ixD (.lst (x :: xs)) (.int 0) = PL.ret x := ix_l (atI_nat (j := 0) rfl)
theorem iL1 (a x : D) (xs : List D) : ixD (.lst (a :: x :: xs)) (.int 1) = PL.ret x := ix_l (atI_nat (j := 1) rfl)
theorem iL2 (a b x : D) (xs : List D) : ixD (.lst (a :: b :: x :: xs)) (.int 2) = PL.ret x := ix_l (atI_nat (j := 2) rfl)
theorem split_ne (a b : Str) : Txt.split a b ≠ [] := by
  unfold Txt.split
  split
  · exact fun z => nomatch z
  · split
    · exact fun z => nomatch z
    · unfold Builtin.Str.partsBetween
      intro z
      have := congrArg List.length z
      simp only [List.length_map, List.length_zip, List.length_cons, List.length_append, List.length_nil] at this
      omega
theorem words_fin (j : List D) : (bnd (cl (d_is_command (.tup j))) fun y4 => bnd (tru y4) fun k2 => if k2 = true then ret (D.tup j) else ret D.non) = ret (if cmdB (.tup j) = true then D.tup j else D.non) := by
  rw [is_command_eq, cl_ret, bnd_ret, tru_bl, bnd_ret]
  cases cmdB (.tup j) <;> rfl
theorem command_in_eq {a : Str} (h : a.length ≤ Big) : d_command_in (.str a) = ret (cIn (Txt.split a tSp)) := by
  unfold d_command_in
  have hn := split_ne a tSp
  show bnd (splitW (.str a) (.str tSp)) _ = _
  rw [split_ret len_sp h, bnd_ret]
  generalize Txt.split a tSp = ws at hn
  have e : ∀ ws : List Str, ws ≠ [] → (bnd (andB (bnd (ixD (.lst (ws.map D.str)) (.int 0)) fun y => eqB y (.str (Str.ofString "set"))) (ret (decide (((ws.map D.str).length : Int) = 3)))) fun kk => if kk = true then
      bnd (bnd (ixD (.lst (ws.map D.str)) (.int 1)) fun y1 => bnd (ixD (.lst (ws.map D.str)) (.int 2)) fun y2 => bnd (cl (d_number_in y2)) fun y3 => ret [(.str (Str.ofString "set")), y1, y3]) fun command => ret command
      else ret (ws.map D.str)) = ret (argsOf ws) := fun ws hn => by
    rcases ws with _ | ⟨w0, _ | ⟨w1, _ | ⟨w2, _ | ⟨w3, r⟩⟩⟩⟩
    · exact absurd rfl hn
    · simp only [List.map_cons, List.map_nil, iL0, bnd_ret, eqB_str, andB_ret, List.length_cons, List.length_nil]
      rw [show decide ((((0 + 1 : Nat)) : Int) = 3) = false from rfl, Bool.and_false]
      rfl
    · simp only [List.map_cons, List.map_nil, iL0, bnd_ret, eqB_str, andB_ret, List.length_cons, List.length_nil]
      rw [show decide ((((0 + 1 + 1 : Nat)) : Int) = 3) = false from rfl, Bool.and_false]
      rfl
    · simp only [List.map_cons, List.map_nil, iL0, iL1, iL2, bnd_ret, eqB_str, andB_ret, List.length_cons, List.length_nil]
      rw [show decide ((((0 + 1 + 1 + 1 : Nat)) : Int) = 3) = true from rfl, Bool.and_true]
      show (if (w0 == tSet) = true then _ else _) = PL.ret (if (w0 == tSet) = true then _ else _ : List D)
      cases w0 == tSet with
      | true =>
        rw [if_pos rfl, if_pos rfl, number_in_eq, cl_ret, bnd_ret, bnd_ret]
      | false => rfl
    · simp only [List.map_cons, iL0, bnd_ret, eqB_str, andB_ret]
      rw [decide_eq_false (by simp only [List.length_cons]; omega), Bool.and_false]
      rfl
  have e2 := e ws hn
  rw [← bnd_bnd, e2, bnd_ret]
  exact words_fin _
theorem lwords_fin (j : List D) : (bnd (cl (d_l_is_command (.tup j))) fun y4 => bnd (tru y4) fun k2 => if k2 = true then ret (D.tup j) else ret D.non) = ret (if cmdB (.tup j) = true then D.tup j else D.non) := by
  rw [l_is_command_eq, cl_ret, bnd_ret, tru_bl, bnd_ret]
  cases cmdB (.tup j) <;> rfl
theorem l_command_in_eq {ws : List Str} (h : ∀ w ∈ ws, w.length ≤ Big) : d_l_command_in (.lst (ws.map D.str)) = ret (cIn ws) := by
  unfold d_l_command_in
  show bnd (ret (D.tup (ws.map D.str))) _ = _
  rw [bnd_ret]
  have e : (bnd (andB (bnd (lenI (.lst (ws.map D.str))) fun n => ret (decide (n = 3))) (bnd (ixD (.lst (ws.map D.str)) (.int 0)) fun y => eqB y (.str (Str.ofString "set")))) fun kk => if kk = true then
      bnd (bnd (ixD (.lst (ws.map D.str)) (.int 1)) fun y1 => bnd (ixD (.lst (ws.map D.str)) (.int 2)) fun y2 => bnd (cl (d_l_number_in y2)) fun y3 => ret [(.str (Str.ofString "set")), y1, y3]) fun found1 => ret (D.tup found1)
      else ret (D.tup (ws.map D.str))) = ret (D.tup (argsOf ws)) := by
    show (bnd (andB (bnd (ret (((ws.map D.str).length : Nat) : Int)) fun n => ret (decide (n = 3))) _) _) = _
    rw [bnd_ret]
    rcases ws with _ | ⟨w0, _ | ⟨w1, _ | ⟨w2, _ | ⟨w3, r⟩⟩⟩⟩
    · rfl
    · rw [show decide (((([w0].map D.str).length : Nat) : Int) = 3) = false from rfl, andB0]
      rfl
    · rw [show decide (((([w0, w1].map D.str).length : Nat) : Int) = 3) = false from rfl, andB0]
      rfl
    · rw [show decide (((([w0, w1, w2].map D.str).length : Nat) : Int) = 3) = true from rfl, andB1]
      simp only [List.map_cons, List.map_nil, iL0, iL1, iL2, bnd_ret, eqB_str]
      show (if (w0 == tSet) = true then _ else _) = PL.ret (D.tup (if (w0 == tSet) = true then _ else _ : List D))
      cases w0 == tSet with
      | true =>
        have hw := h w2 (by simp)
        rw [if_pos rfl, if_pos rfl, l_number_in_eq (by unfold Big at hw; omega), cl_ret, bnd_ret, bnd_ret]
      | false => rfl
    · rw [decide_eq_false (by simp only [List.map_cons, List.length_cons]; omega), andB0, bnd_ret]
      rfl
  rw [← bnd_bnd, e, bnd_ret]
  exact lwords_fin _
/-! ### commands that are valid -/
def okW (v : Str) : Prop := TL.tl v ≠ [] ∧ ∀ k ∈ TL.tl v, k ≠ 32 ∧ k ≠ 59 ∧ k ≠ 125
structure V (vs : List Str) : Prop where
  ok : ∀ v ∈ vs, okW v
  sh : (vs.length = 2 ∧ vs.head? ≠ some wSetS) ∨ (vs.length = 3 ∧ vs.head? = some wSetS)
  nt : vs.head? ≠ some wTry
  nd : ∀ w, vs.head? = some w → (TL.tl w).head? ≠ some 45
theorem okW_word {v : Str} (h : wordB (.str v) = true) : okW v := by
  simp only [wordB, Bool.and_eq_true, decide_eq_true_eq, List.all_eq_true] at h
  refine ⟨fun z => ?_, fun k hk => ?_⟩
  · have := TL.len_tl v
    rw [z] at this
    have h := h.1.1
    rw [this] at h
    simp at h
  · have := h.2 k hk
    simp only [lower, decide_eq_true_eq] at this
    omega
theorem okW_num {v : Str} (h : numB (nIn v) = true) : okW v := by
  have ho : okN (ds v) = true := by
    cases q : okN (ds v) with
    | true => rfl
    | false =>
      unfold nIn at h
      rw [q] at h
      cases h
  unfold okN at ho
  simp only [Bool.and_eq_true, decide_eq_true_eq, List.all_eq_true] at ho
  have hd : ∀ k ∈ (ds v).cps.toList, 48 ≤ k ∧ k ≤ 57 := fun k hk => by simpa [dig] using ho.2 k hk
  have hne : (ds v).cps.toList ≠ [] := fun z => by
    have := len_list (ds v)
    rw [z] at this
    have h := ho.1.1
    rw [← this] at h
    simp at h
  cases hm : minB v with
  | true =>
    have e := min_shape hm
    refine ⟨fun z => by rw [show TL.tl v = v.cps.toList from rfl, e] at z; exact (nomatch z), fun k hk => ?_⟩
    rw [show TL.tl v = v.cps.toList from rfl, e] at hk
    rcases List.mem_cons.mp hk with rfl | hk
    · decide
    · have := hd k hk
      omega
  | false =>
    have e : ds v = v := by unfold ds; rw [hm]; rfl
    rw [e] at hd hne
    exact ⟨hne, fun k hk => by have := hd k hk; omega⟩
theorem kind_cases {a : Str} (h : kindB a = true) : a = Str.ofString "del" ∨ a = Str.ofString "mark" ∨ a = Str.ofString "back" ∨ a = Str.ofString "keep" := by
  unfold kindB at h
  simp only [Bool.or_eq_true, beq_iff_eq] at h
  rcases h with h | h | h | h
  · exact .inl h.symm
  · exact .inr (.inl h.symm)
  · exact .inr (.inr (.inl h.symm))
  · exact .inr (.inr (.inr h.symm))
theorem okW_all {w : Str} (h : TL.tl w ≠ [] ∧ (TL.tl w).all (fun k => k != 32 && k != 59 && k != 125) = true) : okW w := ⟨h.1, fun k hk => by
    have := List.all_eq_true.mp h.2 k hk
    simpa [and_assoc] using this⟩
theorem okW_kind {a : Str} (h : kindB a = true) : okW a ∧ a ≠ wSetS ∧ a ≠ wTry ∧ (TL.tl a).head? ≠ some 45 := by
  rcases kind_cases h with rfl | rfl | rfl | rfl <;> exact ⟨okW_all (by decide +kernel), by decide +kernel, by decide +kernel, by decide +kernel⟩
theorem cIn_V {vs : List Str} (h : isNone (cIn vs) = false) : V vs := by
  rw [isNone_cIn, Bool.not_eq_false'] at h
  have hc : cIn vs = .tup (argsOf vs) := by
    rcases cIn_cases vs with e | e
    · rw [e] at h; cases h
    · unfold cIn at e ⊢
      split
      · rfl
      · rename_i q
        rw [if_neg q] at e
        cases e
  rw [hc] at h
  have set_ok : okW wSetS := okW_all (by decide +kernel)
  match vs, h with
  | [], h => cases h
  | [w0], h => cases h
  | [w0, w1], h =>
    have h : (wordB (.str w1) && kindB w0) = true := h
    rw [Bool.and_eq_true] at h
    obtain ⟨h1, h2, h3, h4⟩ := okW_kind h.2
    refine ⟨fun v hv => ?_, .inl ⟨rfl, fun z => h2 (Option.some.inj z)⟩, fun z => h3 (Option.some.inj z), fun w e => by cases e; exact h4⟩
    simp only [List.mem_cons, List.not_mem_nil, or_false] at hv
    rcases hv with rfl | rfl
    · exact h1
    · exact okW_word h.1
  | [w0, w1, w2], h =>
    have e0 : (argsOf [w0, w1, w2]) = if (w0 == tSet) = true then [.str tSet, .str w1, nIn w2] else [.str w0, .str w1, .str w2] := rfl
    rw [e0] at h
    cases q : w0 == tSet with
    | false =>
      rw [q, if_neg (by decide)] at h
      have h : (wordB (.str w1) && (w0 == Str.ofString "set") && numB (.str w2)) = true := h
      rw [show (w0 == Str.ofString "set") = false from q, Bool.and_false, Bool.false_and] at h
      cases h
    | true =>
      rw [q, if_pos rfl] at h
      have h : (wordB (.str w1) && (tSet == Str.ofString "set") && numB (nIn w2)) = true := h
      simp only [Bool.and_eq_true] at h
      obtain rfl : w0 = wSetS := eq_of_beq q
      refine ⟨fun v hv => ?_, .inr ⟨rfl, rfl⟩, fun z => ?_, fun w e => by cases e; decide +kernel⟩
      · simp only [List.mem_cons, List.not_mem_nil, or_false] at hv
        rcases hv with rfl | rfl | rfl
        · exact set_ok
        · exact okW_word h.1.1
        · exact okW_num h.2
      · exact absurd (Option.some.inj z) (by decide +kernel)
  | w0 :: w1 :: w2 :: w3 :: r, h => cases h
theorem V.sf {vs : List Str} (h : V vs) : Sf vs := fun v hv z => ((h.ok v hv).2 32 z).1 rfl
theorem V.ne {vs : List Str} (h : V vs) : vs ≠ [] := fun z => by
  rcases h.sh with ⟨e, _⟩ | ⟨e, _⟩ <;> rw [z] at e <;> cases e
def nsc (k : Nat) : Bool := k != 59 && k != 125
theorem V.nsc {vs : List Str} (h : V vs) : ∀ k ∈ J vs, nsc k = true := by
  have : ∀ (ws : List Str), (∀ v ∈ ws, okW v) → ∀ k ∈ J ws, Q82.nsc k = true := by
    intro ws
    induction ws with
    | nil => exact fun _ k hk => nomatch hk
    | cons w r ih =>
      intro hw k hk
      rw [J_cons] at hk
      rcases List.mem_append.mp hk with hk | hk
      · have := (hw w List.mem_cons_self).2 k hk
        unfold Q82.nsc
        simp [this.2.1, this.2.2]
      · cases r with
        | nil => cases hk
        | cons v r =>
          rcases List.mem_cons.mp (show k ∈ 32 :: J (v :: r) from hk) with rfl | hk
          · rfl
          · exact ih (fun v hv => hw v (List.mem_cons_of_mem _ hv)) k hk
  exact this vs h.ok
theorem snoc_of {vs : List Str} (h : vs ≠ []) : ∃ pre v, vs = pre ++ [v] := ⟨vs.dropLast, vs.getLast h, (List.dropLast_concat_getLast h).symm⟩
/-! ### commands in texts, in words -/
def cW (c : List Nat) : D := cIn (wordsL c)
/-- the text of a command, what is behind it -/
def cutC (s : List Nat) : List Nat × List Nat :=
  if (s.dropWhile nsc).head? = some 125 ∧ (s.takeWhile nsc).getLast? = some 32 then ((s.takeWhile nsc).dropLast, 32 :: s.dropWhile nsc) else (s.takeWhile nsc, s.dropWhile nsc)
def cmdP (s : List Nat) : Option (D × List Nat) := if isNone (cW (cutC s).1) = true then none else some (cW (cutC s).1, (cutC s).2)
def ends (w : Str) : Bool := (TL.tl w).getLast? == some 59
def strip (w : Str) : Str := if ends w = true then mkS (TL.tl w).dropLast else w
def manyL (ws : List Str) : Nat := if ws.head? = some wSetS then 3 else 2
def lastL (ws : List Str) : Str := ((ws.take (manyL ws)).getLast?).getD (Str.ofString "")
def rowC (ws : List Str) : List Str := (ws.take (manyL ws)).dropLast ++ [strip (lastL ws)]
theorem take_while {p x : List Nat} (hp : ∀ k ∈ p, nsc k = true) (hx : ∀ k, x.head? = some k → nsc k = false) : (p ++ x).takeWhile nsc = p ∧ (p ++ x).dropWhile nsc = x := by
  induction p with
  | nil =>
    cases x with
    | nil => exact ⟨rfl, rfl⟩
    | cons k x =>
      have := hx k rfl
      rw [List.nil_append, List.takeWhile_cons, List.dropWhile_cons, this]
      exact ⟨rfl, rfl⟩
  | cons k p ih =>
    have h1 := hp k List.mem_cons_self
    obtain ⟨h2, h3⟩ := ih fun z hz => hp z (List.mem_cons_of_mem _ hz)
    rw [List.cons_append, List.takeWhile_cons, List.dropWhile_cons, h1]
    exact ⟨by rw [if_pos rfl, h2], by rw [if_pos rfl, h3]⟩
theorem cW_J {vs : List Str} (h : V vs) : cW (J vs) = cIn vs := by
  unfold cW
  rw [words_J h.ne h.sf]
theorem cutC_no {s p x : List Nat} (h1 : s.takeWhile nsc = p) (h2 : s.dropWhile nsc = x) (h : ¬(x.head? = some 125 ∧ p.getLast? = some 32)) : cutC s = (p, x) := by
  unfold cutC
  rw [h1, h2, if_neg h]
theorem cutC_yes {s p x : List Nat} (h1 : s.takeWhile nsc = p ++ [32]) (h2 : s.dropWhile nsc = 125 :: x) : cutC s = (p, 32 :: 125 :: x) := by
  unfold cutC
  rw [h1, h2, if_pos ⟨rfl, by simp⟩, List.dropLast_concat]
theorem cmdP_of {s p x : List Nat} {d : D} (h : cutC s = (p, x)) (hd : cW p = d) (hn : isNone d = false) : cmdP s = some (d, x) := by
  unfold cmdP
  rw [h]
  show (if isNone (cW p) = true then none else some (cW p, x)) = _
  rw [hd, hn]
  rfl
/-- what is read of a text with a valid command ahead -/
theorem cmd_semi {vs : List Str} {x : List Nat} (h : V vs) (hn : isNone (cIn vs) = false) : cmdP (J vs ++ 59 :: x) = some (cIn vs, 59 :: x) := by
  obtain ⟨h1, h2⟩ := take_while (p := J vs) (x := 59 :: x) h.nsc (fun k e => by cases e; rfl)
  exact cmdP_of (cutC_no h1 h2 (fun z => by cases z.1)) (cW_J h) hn
theorem cmd_end {vs : List Str} (h : V vs) (hn : isNone (cIn vs) = false) : cmdP (J vs) = some (cIn vs, []) := by
  obtain ⟨h1, h2⟩ := take_while (p := J vs) (x := []) h.nsc (fun k e => by cases e)
  rw [List.append_nil] at h1 h2
  exact cmdP_of (cutC_no h1 h2 (fun z => by cases z.1)) (cW_J h) hn
theorem cmd_shut {vs : List Str} {x : List Nat} (h : V vs) (hn : isNone (cIn vs) = false) : cmdP (J vs ++ 32 :: 125 :: x) = some (cIn vs, 32 :: 125 :: x) := by
  obtain ⟨h1, h2⟩ := take_while (p := J vs ++ [32]) (x := 125 :: x) (fun k hk => (List.mem_append.mp hk).elim (h.nsc k) fun z => by rw [List.mem_singleton.mp z]; rfl) (fun k e => by cases e; rfl)
  rw [List.append_assoc] at h1 h2
  exact cmdP_of (cutC_yes h1 h2) (cW_J h) hn
/-- what stands in the words where a text's command is valid -/
theorem cmd_prog {ws : List Str} {x : D} {r : List Nat} (hne : ws ≠ []) (hs : Sf ws) (h : cmdP (J ws) = some (x, r)) : ∃ vs, V vs ∧ x = cIn vs ∧ isNone (cIn vs) = false ∧
    ((ws = vs ∧ r = []) ∨ (∃ next w, ws = vs ++ next ∧ next.head? = some w ∧ (TL.tl w).head? = some 125 ∧ r = R next) ∨
     (∃ pre v q t0 ts, vs = pre ++ [v] ∧ (q = 59 ∨ q = 125) ∧ 32 ∉ t0 ∧ ws = pre ++ mkS (TL.tl v ++ q :: t0) :: ts ∧ r = q :: t0 ++ R ts)) := by
  unfold cmdP at h
  cases hn : isNone (cW (cutC (J ws)).1) with
  | true => rw [hn] at h; cases h
  | false =>
    rw [hn, if_neg (by decide)] at h
    cases h
    have hv : V (wordsL (cutC (J ws)).1) := cIn_V hn
    obtain ⟨w1, w2, w3⟩ := words_ok (cutC (J ws)).1
    refine ⟨_, hv, rfl, hn, ?_⟩
    generalize hvs : wordsL (cutC (J ws)).1 = vs at hv w1 w2 w3
    have hsp : (J ws).takeWhile nsc ++ (J ws).dropWhile nsc = J ws := List.takeWhile_append_dropWhile
    have app : ∀ (q : Nat) (t : List Nat), (q = 59 ∨ q = 125) → J ws = J vs ++ q :: t → ∃ pre v q' t0 ts, vs = pre ++ [v] ∧ (q' = 59 ∨ q' = 125) ∧ 32 ∉ t0 ∧ ws = pre ++ mkS (TL.tl v ++ q' :: t0) :: ts ∧ q :: t = q' :: t0 ++ R ts := fun q t hq e => by
      obtain ⟨pre, v, ev⟩ := snoc_of w1
      obtain ⟨u1, u2, u3⟩ := words_ok (q :: t)
      cases hw : wordsL (q :: t) with
      | nil => exact absurd hw u1
      | cons a ts =>
        rw [hw] at u2 u3
        have hq32 : q ≠ 32 := by rcases hq with rfl | rfl <;> decide
        have ha : ∃ t0, TL.tl a = q :: t0 := by
          rw [J_cons] at u3
          cases qa : TL.tl a with
          | nil =>
            rw [qa] at u3
            cases ts with
            | nil => cases u3
            | cons b ts => exact absurd (List.cons.inj (show 32 :: J (b :: ts) = q :: t from u3)).1.symm hq32
          | cons k t0 =>
            rw [qa] at u3
            exact ⟨t0, by rw [(List.cons.inj (show k :: (t0 ++ R ts) = q :: t from u3)).1]⟩
        obtain ⟨t0, ha⟩ := ha
        have h32 : 32 ∉ t0 := fun z => u2 a List.mem_cons_self (by rw [ha]; exact List.mem_cons_of_mem _ z)
        have e2 : J ws = J (pre ++ mkS (TL.tl v ++ q :: t0) :: ts) := by
          rw [e, ← u3, J_cons, ha, ev, show pre ++ mkS (TL.tl v ++ q :: t0) :: ts = (pre ++ [mkS (TL.tl v ++ q :: t0)]) ++ ts by simp, J_app ts (by simp), J_last pre v _ (q :: t0) (tl_mkS _), List.append_assoc]
        refine ⟨pre, v, q, t0, ts, ev, hq, h32, J_inj hne (by simp) hs (fun w hw => ?_) e2, by rw [← u3, J_cons, ha]⟩
        rcases List.mem_append.mp hw with hw | hw
        · exact w2 w (by rw [ev]; exact List.mem_append_left _ hw)
        · rcases List.mem_cons.mp hw with rfl | hw
          · rw [tl_mkS]
            intro z
            rcases List.mem_append.mp z with z | z
            · exact w2 v (by rw [ev]; simp) z
            · rcases List.mem_cons.mp z with z | z
              · exact hq32 z.symm
              · exact h32 z
          · exact u2 w (List.mem_cons_of_mem _ hw)
    have hd : ∀ k, ((J ws).dropWhile nsc).head? = some k → k = 59 ∨ k = 125 := fun k e => by
      have := List.head?_dropWhile_not nsc (J ws)
      rw [e] at this
      unfold nsc at this
      simp only [Bool.not_eq_true', Bool.and_eq_false_iff, bne_eq_false_iff_eq] at this
      exact this
    unfold cutC at w3 ⊢
    by_cases hc : ((J ws).dropWhile nsc).head? = some 125 ∧ ((J ws).takeWhile nsc).getLast? = some 32
    · rw [if_pos hc] at w3 ⊢
      obtain ⟨c1, c2⟩ := hc
      cases hq : (J ws).dropWhile nsc with
      | nil => rw [hq] at c1; cases c1
      | cons k t =>
        rw [hq] at c1 hsp
        cases c1
        have hu : (J ws).takeWhile nsc = J vs ++ [32] := by
          have hne2 : (J ws).takeWhile nsc ≠ [] := fun z => by rw [z] at c2; cases c2
          have := List.dropLast_concat_getLast hne2
          rw [List.getLast?_eq_some_getLast hne2] at c2
          rw [← this, Option.some.inj c2]
          show _ = J vs ++ [32]
          rw [w3]
        rw [hu, List.append_assoc] at hsp
        have e : J ws = J vs ++ 32 :: 125 :: t := hsp.symm
        obtain ⟨u1, u2, u3⟩ := words_ok (125 :: t)
        cases hw : wordsL (125 :: t) with
        | nil => exact absurd hw u1
        | cons a ts =>
          rw [hw] at u2 u3
          have e2 : J ws = J (vs ++ a :: ts) := by
            rw [e, J_app (a := vs) (a :: ts) w1]
            show _ = J vs ++ 32 :: J (a :: ts)
            rw [u3]
          have ew : ws = vs ++ a :: ts := J_inj hne (by simp) hs (fun w hw => (List.mem_append.mp hw).elim (w2 w) (u2 w)) e2
          refine .inr (.inl ⟨a :: ts, a, ew, rfl, ?_, ?_⟩)
          · rw [J_cons] at u3
            cases qa : TL.tl a with
            | nil =>
              rw [qa] at u3
              cases ts with
              | nil => cases u3
              | cons b ts => exact absurd (List.cons.inj (show 32 :: J (b :: ts) = 125 :: t from u3)).1 (by decide)
            | cons k t0 =>
              rw [qa] at u3
              exact congrArg some (List.cons.inj (show k :: (t0 ++ R ts) = 125 :: t from u3)).1
          · show 32 :: 125 :: t = 32 :: J (a :: ts)
            rw [u3]
    · rw [if_neg hc] at w3 ⊢
      cases hq : (J ws).dropWhile nsc with
      | nil =>
        rw [hq, List.append_nil] at hsp
        exact .inl ⟨J_inj hne w1 hs w2 (by rw [w3]; exact hsp.symm), rfl⟩
      | cons k t =>
        rw [hq] at hsp
        obtain ⟨pre, v, q', t0, ts, a1, a2, a3, a4, a5⟩ := app k t (hd k (by rw [hq]; rfl)) (by rw [w3]; exact hsp.symm)
        exact .inr (.inr ⟨pre, v, q', t0, ts, a1, a2, a3, a4, a5⟩)
end Q82

namespace Q82
open PySem PySem.Spec L2 PL
/-! ### programs in texts, in words -/
abbrev wDash : Str := Str.ofString "-"
abbrev PT := List Nat → Option (D × List Nat)
abbrev PL' := List Str → Option (D × List Str)
def tryD (a b : D) : D := .tup [.str wTry, a, b]
def rdTry (rc : PT) (s : List Nat) : Option (D × List Nat) := match rc s with
  | none => none
  | some (a, r) => if r.take 10 = elseW then (match rc (r.drop 10) with
    | none => none
    | some (b, r2) => if r2.take 2 = endW then some (tryD a b, r2.drop 2) else none) else none
def itemP (rc : PT) (s : List Nat) : Option (D × List Nat) := if s.take 6 = tryW then rdTry rc (s.drop 6) else cmdP s
def loopP (rc : PT) : Nat → List Nat → List D → Option (D × List Nat)
  | 0, _, _ => none
  | f + 1, s, acc => match itemP rc s with
    | none => none
    | some (x, r) => if r.take 2 = [59, 32] then loopP rc f (r.drop 2) (acc ++ [x]) else some (.tup (acc ++ [x]), r)
def blockP (rc : PT) (s : List Nat) : Option (D × List Nat) := if s.take 1 = [45] then some (.tup [], s.drop 1) else loopP rc (s.length + 1) s []
def progP : Nat → PT
  | 0 => fun _ => none
  | n + 1 => blockP (progP n)
def tryL (rc : PL') (ws : List Str) : Option (D × List Str) :=
  if ws.take 1 = [wOpen] then (match rc (ws.drop 1) with
    | none => none
    | some (a, r) => if r.take 3 = [wShut, wElse, wOpen] then (match rc (r.drop 3) with
      | none => none
      | some (b, r2) => some (tryD a b, r2)) else none) else none
def itemL (rc : PL') (ws : List Str) : Option (D × Str × List Str) :=
  if ws.take 1 = [wTry] then (match tryL rc (ws.drop 1) with
    | none => none
    | some (x, r) => match r with
      | [] => none
      | w :: t => if w = wShut ∨ w = wShutS then some (x, w, t) else none)
  else if isNone (cIn (rowC ws)) = true then none else some (cIn (rowC ws), lastL ws, ws.drop (manyL ws))
def loopL (rc : PL') : Nat → List Str → List D → Option (D × List Str)
  | 0, _, _ => none
  | f + 1, ws, acc => match itemL rc ws with
    | none => none
    | some (x, w, t) => if ends w = true then loopL rc f t (acc ++ [x]) else some (.tup (acc ++ [x]), t)
def blockL (rc : PL') (ws : List Str) : Option (D × List Str) := match ws with
  | [] => none
  | w :: r => if w = wDash then some (.tup [], r) else loopL rc (r.length + 2) (w :: r) []
def progL : Nat → PL'
  | 0 => fun _ => none
  | n + 1 => blockL (progL n)
/-! ### the two compared -/
def hd125 (w : Str) : Prop := (TL.tl w).head? = some 125
def Bad (p : Option (D × List Nat)) (l : Option (D × List Str)) : Prop :=
  (p = none ∨ ∃ d r, p = some (d, r) ∧ r ≠ [] ∧ r.take 2 ≠ endW) ∧ (l = none ∨ ∃ d w r, l = some (d, w :: r) ∧ ¬hd125 w)
def Good (ws : List Str) (p : Option (D × List Nat)) (l : Option (D × List Str)) : Prop :=
  ∃ d pre w t, ws = pre ++ w :: t ∧ ends w = false ∧ l = some (d, t) ∧ p = some (d, R t) ∧ ∀ u t', t = u :: t' → hd125 u
def Rel (ws : List Str) (p : Option (D × List Nat)) (l : Option (D × List Str)) : Prop := Bad p l ∨ Good ws p l
def BadI (p : Option (D × List Nat)) (l : Option (D × Str × List Str)) : Prop :=
  (p = none ∨ ∃ d r, p = some (d, r) ∧ r ≠ [] ∧ r.take 2 ≠ endW ∧ r.take 2 ≠ [59, 32]) ∧ (l = none ∨ ∃ d w u t, l = some (d, w, u :: t) ∧ ends w = false ∧ ¬hd125 u)
def RelI (ws : List Str) (p : Option (D × List Nat)) (l : Option (D × Str × List Str)) : Prop :=
  BadI p l ∨ ∃ d pre w t, ws = pre ++ w :: t ∧ l = some (d, w, t) ∧ ((ends w = true ∧ p = some (d, 59 :: R t)) ∨ (ends w = false ∧ p = some (d, R t)))
theorem J_suf {pre t : List Str} (w : Str) (ht : t ≠ []) : (J t).length < (J (pre ++ w :: t)).length := by
  have e : J (pre ++ w :: t) = J (pre ++ [w]) ++ R t := by
    rw [show pre ++ w :: t = (pre ++ [w]) ++ t by simp, J_app t (by simp)]
  rw [e, List.length_append]
  cases t with
  | nil => exact absurd rfl ht
  | cons u t => show _ < _ + (J (u :: t)).length.succ; omega
theorem R_semi (t : List Str) : (R t).take 2 ≠ [59, 32] := by
  cases t with
  | nil => exact fun z => nomatch z
  | cons u t => exact fun z => absurd (List.cons.inj (show 32 :: (J (u :: t)).take 1 = [59, 32] from z)).1 (by decide)
theorem R_end {u : Str} {t : List Str} (h : ¬hd125 u) : (R (u :: t)).take 2 ≠ endW := by
  intro z
  have z : 32 :: (J (u :: t)).take 1 = [32, 125] := z
  have z := (List.cons.inj z).2
  rw [J_cons] at z
  unfold hd125 at h
  cases q : TL.tl u with
  | nil =>
    rw [q] at z
    cases t with
    | nil => cases z
    | cons v t => exact absurd (List.cons.inj (show 32 :: _ = [125] from z)).1 (by decide)
  | cons k x =>
    rw [q] at z h
    exact h (congrArg some (List.cons.inj (show k :: _ = [125] from z)).1)
theorem loopL_nil (rc : PL') (f : Nat) (acc : List D) : loopL rc f [] acc = none := by
  cases f with
  | zero => rfl
  | succ f =>
    have : itemL rc [] = none := by
      unfold itemL
      rw [if_neg (fun z => nomatch z), if_pos (by decide +kernel)]
    unfold loopL
    rw [this]
theorem loop_rel {rp : PT} {rl : PL'} (hi : ∀ ws, ws ≠ [] → Sf ws → RelI ws (itemP rp (J ws)) (itemL rl ws)) :
    ∀ (f g : Nat) (ws : List Str) (acc : List D), ws ≠ [] → Sf ws → (J ws).length < f → ws.length < g → Rel ws (loopP rp f (J ws) acc) (loopL rl g ws acc)
  | 0, _, _, _, _, _, h, _ => absurd h (Nat.not_lt_zero _)
  | _ + 1, 0, _, _, _, _, _, h => absurd h (Nat.not_lt_zero _)
  | f + 1, g + 1, ws, acc, hne, hs, hf, hg => by
    unfold loopP loopL
    rcases hi ws hne hs with ⟨hp, hl⟩ | ⟨d, pre, w, t, e, hl, h | h⟩
    · left
      constructor
      · rcases hp with hp | ⟨d, r, hp, h1, h2, h3⟩
        · rw [hp]; exact .inl rfl
        · rw [hp]; exact .inr ⟨.tup (acc ++ [d]), r, if_neg h3, h1, h2⟩
      · rcases hl with hl | ⟨d, w, u, t, hl, h1, h2⟩
        · rw [hl]; exact .inl rfl
        · rw [hl]; exact .inr ⟨.tup (acc ++ [d]), u, t, if_neg (by rw [h1]; decide), h2⟩
    · obtain ⟨hw, hp⟩ := h
      rw [hl, hp]
      show Rel ws (if (59 :: R t).take 2 = [59, 32] then _ else _) (if ends w = true then _ else _)
      rw [if_pos hw]
      cases t with
      | nil =>
        left
        rw [loopL_nil]
        exact ⟨.inr ⟨_, _, if_neg (fun z => nomatch z), fun z => (nomatch z), fun z => absurd (List.cons.inj (show [59] = [32, 125] from z)).1 (by decide)⟩, .inl rfl⟩
      | cons u t =>
        rw [if_pos (show (59 :: R (u :: t)).take 2 = [59, 32] from rfl)]
        have hs2 : Sf (u :: t) := by
          rw [e] at hs
          exact (Sf.app hs).2.tail
        have hl2 := J_suf (pre := pre) w (t := u :: t) (fun z => nomatch z)
        rw [← e] at hl2
        have hg2 : (u :: t).length < g := by
          have := congrArg List.length e
          simp only [List.length_append, List.length_cons] at this ⊢
          omega
        have ih := loop_rel hi f g (u :: t) (acc ++ [d]) (fun z => nomatch z) hs2 (by omega) hg2
        show Rel ws (loopP rp f (J (u :: t)) (acc ++ [d])) _
        rcases ih with h | ⟨d2, p2, w2, t2, e2, h⟩
        · exact .inl h
        · exact .inr ⟨d2, pre ++ w :: p2, w2, t2, by rw [e, e2]; simp, h⟩
    · obtain ⟨hw, hp⟩ := h
      rw [hl, hp]
      show Rel ws (if (R t).take 2 = [59, 32] then _ else _) (if ends w = true then _ else _)
      rw [if_neg (R_semi t), if_neg (c := ends w = true) (by rw [hw]; decide)]
      cases t with
      | nil => exact .inr ⟨_, pre, w, [], e, hw, rfl, rfl, fun u t' z => nomatch z⟩
      | cons u t =>
        by_cases hu : hd125 u
        · exact .inr ⟨_, pre, w, u :: t, e, hw, rfl, rfl, fun u t' z => by cases z; exact hu⟩
        · exact .inl ⟨.inr ⟨_, _, rfl, fun z => (nomatch z), R_end hu⟩, .inr ⟨_, _, _, rfl, hu⟩⟩
/-! ### one item -/
theorem strip_no {w : Str} (h : ends w = false) : strip w = w := by
  unfold strip
  rw [h]
  rfl
theorem strip_yes {w : Str} (h : ends w = true) : w = mkS (TL.tl (strip w) ++ [59]) := by
  unfold strip
  rw [if_pos h, tl_mkS]
  unfold ends at h
  have h := eq_of_beq h
  have hne : TL.tl w ≠ [] := fun z => by rw [z] at h; cases h
  have := List.dropLast_concat_getLast hne
  rw [List.getLast?_eq_some_getLast hne] at h
  rw [← Option.some.inj h, this, mkS_tl]
theorem ends_mk (x : List Nat) : ends (mkS (x ++ [59])) = true ∧ strip (mkS (x ++ [59])) = mkS x := by
  have : ends (mkS (x ++ [59])) = true := by unfold ends; rw [tl_mkS]; simp
  refine ⟨this, ?_⟩
  unfold strip
  rw [if_pos this, tl_mkS, List.dropLast_concat]
theorem ends_ok {v : Str} (h : okW v) : ends v = false := by
  unfold ends
  rw [List.getLast?_eq_some_getLast h.1]
  have := (h.2 _ (List.getLast_mem h.1)).2.1
  cases q : (some ((TL.tl v).getLast h.1) == some 59) with
  | false => rfl
  | true => exact absurd (Option.some.inj (eq_of_beq q)) this
theorem row_of {pre next ws : List Str} {v w : Str} (h : V (pre ++ [v])) (e : ws = pre ++ w :: next) :
    manyL ws = pre.length + 1 ∧ lastL ws = w ∧ rowC ws = pre ++ [strip w] ∧ ws.drop (manyL ws) = next := by
  have hp : pre ≠ [] := fun z => by
    have := h.sh
    rw [z] at this
    simp at this
  have hh : ws.head? = (pre ++ [v]).head? := by
    rw [e]
    cases pre with
    | nil => exact absurd rfl hp
    | cons a b => rfl
  have hm : manyL ws = pre.length + 1 := by
    unfold manyL
    rw [hh]
    rcases h.sh with ⟨a, b⟩ | ⟨a, b⟩
    · rw [if_neg b]
      simp only [List.length_append, List.length_cons, List.length_nil] at a
      omega
    · rw [if_pos b]
      simp only [List.length_append, List.length_cons, List.length_nil] at a
      omega
  have e2 : ws = (pre ++ [w]) ++ next := by rw [e]; simp
  have ht : ws.take (manyL ws) = pre ++ [w] := by
    rw [hm, e2]
    exact List.take_left' (by simp)
  have hl : lastL ws = w := by
    unfold lastL
    rw [ht]
    simp
  refine ⟨hm, hl, ?_, ?_⟩
  · unfold rowC
    rw [hl, ht, List.dropLast_concat]
  · rw [hm, e2]
    exact List.drop_left' (by simp)
theorem cmd_law {ws : List Str} (h : isNone (cIn (rowC ws)) = false) : ∃ pre v w next, V (pre ++ [v]) ∧ rowC ws = pre ++ [v] ∧ ws = pre ++ w :: next ∧ strip w = v := by
  have hv := cIn_V h
  have hr : ws.take (manyL ws) ≠ [] := fun z => by
    have := hv.sh
    unfold rowC at this
    rw [z] at this
    simp at this
  refine ⟨(ws.take (manyL ws)).dropLast, strip (lastL ws), lastL ws, ws.drop (manyL ws), hv, rfl, ?_, rfl⟩
  have hl : lastL ws = (ws.take (manyL ws)).getLast hr := by
    unfold lastL
    rw [List.getLast?_eq_some_getLast hr]
    rfl
  rw [hl]
  have a := List.take_append_drop (manyL ws) ws
  have b := List.dropLast_concat_getLast hr
  conv => lhs; rw [← a, ← b]
  simp
theorem okW_no {w : Str} {k : Nat} (hk : k ∈ TL.tl w) (h : k = 59 ∨ k = 125) : ¬okW w := fun z => by
  have := z.2 k hk
  rcases h with h | h
  · exact this.2.1 h
  · exact this.2.2 h
theorem cmd_head {ws : List Str} {x : D} {r : List Nat} (hne : ws ≠ []) (hs : Sf ws) (h : cmdP (J ws) = some (x, r)) : ∃ vs, V vs ∧ ws.head? = vs.head? := by
  obtain ⟨vs, hv, _, _, h | ⟨next, w, h, _⟩ | ⟨pre, v, q, t0, ts, e, _, _, h, _⟩⟩ := cmd_prog hne hs h
  · exact ⟨vs, hv, by rw [h.1]⟩
  · refine ⟨vs, hv, ?_⟩
    rw [h]
    cases vs with
    | nil => exact absurd rfl hv.ne
    | cons a b => rfl
  · refine ⟨vs, hv, ?_⟩
    rw [h, e]
    cases pre with
    | nil =>
      have := hv.sh
      rw [e] at this
      simp at this
    | cons a b => rfl
theorem cmd_try {ws : List Str} (hne : ws ≠ []) (hs : Sf ws) (h : ws.head? = some wTry) : cmdP (J ws) = none := by
  cases q : cmdP (J ws) with
  | none => rfl
  | some z =>
    obtain ⟨x, r⟩ := z
    obtain ⟨vs, hv, e⟩ := cmd_head hne hs q
    exact absurd (e.symm.trans h) hv.nt
theorem cmd_rel {ws : List Str} (hne : ws ≠ []) (hs : Sf ws) : RelI ws (cmdP (J ws)) (if isNone (cIn (rowC ws)) = true then none else some (cIn (rowC ws), lastL ws, ws.drop (manyL ws))) := by
  have law_yes : ∀ {pre v w next}, V (pre ++ [v]) → isNone (cIn (pre ++ [v])) = false → ws = pre ++ w :: next → strip w = v → (if isNone (cIn (rowC ws)) = true then none else some (cIn (rowC ws), lastL ws, ws.drop (manyL ws)) : Option (D × Str × List Str)) = some (cIn (pre ++ [v]), w, next) := fun {pre v w next} hv hn e hw => by
    obtain ⟨m1, m2, m3, m4⟩ := row_of hv e
    rw [m4, m2, m3, hw, hn]
    rfl
  cases q : cmdP (J ws) with
  | none =>
    left
    refine ⟨.inl rfl, ?_⟩
    cases hn : isNone (cIn (rowC ws)) with
    | true => exact .inl rfl
    | false =>
      obtain ⟨pre, v, w, next, hv, hr, e, hw⟩ := cmd_law hn
      rw [hr] at hn
      have hn2 : isNone (cIn (rowC ws)) = false := by rw [hr]; exact hn
      have ly := law_yes hv hn e hw
      rw [hn2] at ly
      have ew : J ws = J (pre ++ [w]) ++ R next := by
        rw [e, show pre ++ w :: next = (pre ++ [w]) ++ next by simp, J_app next (by simp)]
      cases hd : ends w with
      | true =>
        exfalso
        have e1 := strip_yes hd
        rw [hw] at e1
        have e2 := J_last pre v w [59] (by rw [e1, tl_mkS])
        rw [e2, List.append_assoc] at ew
        have := cmd_semi (x := R next) hv hn
        rw [show J ws = J (pre ++ [v]) ++ 59 :: R next from ew] at q
        rw [q] at this
        cases this
      | false =>
        rw [strip_no hd] at hw
        subst hw
        cases next with
        | nil =>
          exfalso
          rw [show R [] = [] from rfl, List.append_nil] at ew
          have := cmd_end hv hn
          rw [← ew, q] at this
          cases this
        | cons u t =>
          by_cases hu : hd125 u
          · exfalso
            obtain ⟨x, hx⟩ : ∃ x, TL.tl u = 125 :: x := by
              unfold hd125 at hu
              cases qu : TL.tl u with
              | nil => rw [qu] at hu; cases hu
              | cons k x => rw [qu] at hu; exact ⟨x, by rw [Option.some.inj (show some k = some 125 from hu)]⟩
            have e3 : R (u :: t) = 32 :: 125 :: (x ++ R t) := by
              show 32 :: J (u :: t) = _
              rw [J_cons, hx]
              rfl
            rw [e3] at ew
            have := cmd_shut (x := x ++ R t) hv hn
            rw [← ew, q] at this
            cases this
          · exact .inr ⟨_, _, _, _, ly, hd, hu⟩
  | some z =>
    obtain ⟨x, r⟩ := z
    obtain ⟨vs, hv, hx, hn, h⟩ := cmd_prog hne hs q
    have plain : ∀ next, ws = vs ++ next → r = R next → RelI ws (some (x, r)) (if isNone (cIn (rowC ws)) = true then none else some (cIn (rowC ws), lastL ws, ws.drop (manyL ws))) := fun next e er => by
      obtain ⟨pre, v, ev⟩ := snoc_of hv.ne
      subst ev
      have hok : okW v := hv.ok v (by simp)
      have e2 : ws = pre ++ v :: next := by rw [e]; simp
      rw [law_yes hv hn e2 (strip_no (ends_ok hok)), hx, er]
      exact .inr ⟨_, pre, v, next, e2, rfl, .inr ⟨ends_ok hok, rfl⟩⟩
    rcases h with ⟨h1, h2⟩ | ⟨next, w, h1, h2, h3, h4⟩ | ⟨pre, v, k, t0, ts, h1, h2, h3, h4, h5⟩
    · exact plain [] (by rw [h1, List.append_nil]) h2
    · exact plain next h1 h4
    · subst h1
      by_cases hc : k = 59 ∧ t0 = []
      · obtain ⟨rfl, rfl⟩ := hc
        obtain ⟨d1, d2⟩ := ends_mk (TL.tl v)
        rw [mkS_tl] at d2
        rw [law_yes hv hn h4 d2, hx, h5]
        exact .inr ⟨_, pre, _, ts, h4, rfl, .inl ⟨d1, rfl⟩⟩
      · left
        obtain ⟨m1, m2, m3, m4⟩ := row_of hv h4
        constructor
        · refine .inr ⟨x, r, rfl, ?_, ?_, ?_⟩
          · rw [h5]; exact fun z => nomatch z
          · rw [h5]
            intro z
            have := (List.cons.inj (show k :: (t0 ++ R ts).take 1 = [32, 125] from z)).1
            omega
          · rw [h5]
            intro z
            obtain ⟨z1, z2⟩ := List.cons.inj (show k :: (t0 ++ R ts).take 1 = [59, 32] from z)
            cases t0 with
            | nil => exact hc ⟨z1, rfl⟩
            | cons a t0 =>
              have := (List.cons.inj (show [a] = [32] from z2)).1
              exact h3 (by rw [this]; exact List.mem_cons_self)
        · left
          have nok : ¬okW (strip (mkS (TL.tl v ++ k :: t0))) := by
            cases hd : ends (mkS (TL.tl v ++ k :: t0)) with
            | false =>
              rw [strip_no hd]
              exact okW_no (k := k) (by rw [tl_mkS]; simp) h2
            | true =>
              cases t0 with
              | nil =>
                exfalso
                unfold ends at hd
                rw [tl_mkS] at hd
                simp at hd
                exact hc ⟨hd, rfl⟩
              | cons a t0 =>
                unfold strip
                rw [if_pos hd, tl_mkS]
                refine okW_no (k := k) ?_ h2
                rw [tl_mkS, List.dropLast_append_of_ne_nil (show k :: a :: t0 ≠ [] by simp), List.dropLast_cons_cons]
                simp
          have hnone : isNone (cIn (rowC ws)) = true := by
            cases hq : isNone (cIn (rowC ws)) with
            | true => rfl
            | false =>
              have := (cIn_V hq).ok (strip (mkS (TL.tl v ++ k :: t0))) (by rw [m3]; simp)
              exact absurd this nok
          rw [if_pos hnone]
theorem hd_shut {w : Str} (h : w = wShut ∨ w = wShutS) : hd125 w := by
  rcases h with rfl | rfl <;> exact by unfold hd125; decide +kernel
theorem take_else {r : List Nat} (h : r.take 10 = elseW) : r.take 2 = endW := by
  have := congrArg (List.take 2) h
  rw [List.take_take] at this
  exact this
theorem hd_get {u : Str} (hu : hd125 u) : ∃ x, TL.tl u = 125 :: x := by
  unfold hd125 at hu
  cases qu : TL.tl u with
  | nil => rw [qu] at hu; cases hu
  | cons k x => rw [qu] at hu; exact ⟨x, by rw [Option.some.inj (show some k = some 125 from hu)]⟩
theorem both_none (ws : List Str) : RelI ws none none := .inl ⟨.inl rfl, .inl rfl⟩
/-- a second block and its end -/
theorem second_rel {rp : PT} {rl : PL'} {a : D} {ws pre r : List Str} (hne : r ≠ []) (hs : Sf r) (e : ws = pre ++ r) (hr : Rel r (rp (J r)) (rl r)) :
    RelI ws (match rp (J r) with
      | none => none
      | some (b, r2) => if r2.take 2 = endW then some (tryD a b, r2.drop 2) else none)
     (match (match rl r with
      | none => none
      | some (b, r2) => some (tryD a b, r2) : Option (D × List Str)) with
      | none => none
      | some (x, q) => match q with
        | [] => none
        | w :: t => if w = wShut ∨ w = wShutS then some (x, w, t) else none) := by
  rcases hr with ⟨hp, hl⟩ | ⟨b, p2, w, t, e2, hw, hl, hp, hh⟩
  · have h1 : (match rp (J r) with
      | none => none
      | some (b, r2) => if r2.take 2 = endW then some (tryD a b, r2.drop 2) else none : Option (D × List Nat)) = none := by
      rcases hp with hp | ⟨b, r2, hp, g1, g2⟩
      · rw [hp]
      · rw [hp]
        exact if_neg g2
    rw [h1]
    rcases hl with hl | ⟨b, w, t, hl, g⟩
    · rw [hl]; exact both_none ws
    · rw [hl]
      show RelI ws none (if w = wShut ∨ w = wShutS then some (tryD a b, w, t) else none)
      rw [if_neg (fun z => g (hd_shut z))]
      exact both_none ws
  · rw [hp, hl]
    cases t with
    | nil => exact both_none ws
    | cons u t =>
      obtain ⟨x, hx⟩ := hd_get (hh u t rfl)
      have er : R (u :: t) = 32 :: 125 :: (x ++ R t) := by
        show 32 :: J (u :: t) = _
        rw [J_cons, hx]
        rfl
      rw [er]
      show RelI ws (some (tryD a b, x ++ R t)) (if u = wShut ∨ u = wShutS then some (tryD a b, u, t) else none)
      have ews : ws = (pre ++ p2 ++ [w]) ++ u :: t := by rw [e, e2]; simp
      by_cases c1 : u = wShut
      · subst c1
        rw [tl_shut] at hx
        rw [if_pos (.inl rfl), ← (List.cons.inj hx).2]
        exact .inr ⟨_, _, wShut, t, ews, rfl, .inr ⟨by unfold ends; decide +kernel, rfl⟩⟩
      · by_cases c2 : u = wShutS
        · subst c2
          rw [tl_shutS] at hx
          rw [if_pos (.inr rfl), ← (List.cons.inj hx).2]
          exact .inr ⟨_, _, wShutS, t, ews, rfl, .inl ⟨by unfold ends; decide +kernel, rfl⟩⟩
        · rw [if_neg (fun z => z.elim c1 c2)]
          have hsu : 32 ∉ TL.tl u := hs u (by rw [e2]; simp)
          refine .inl ⟨.inr ⟨_, _, rfl, ?_⟩, .inl rfl⟩
          cases x with
          | nil => exact absurd (TL.ext_tl (hx.trans tl_shut.symm)) c1
          | cons k x =>
            refine ⟨fun z => (nomatch z), fun z => ?_, fun z => ?_⟩
            · have := (List.cons.inj (show k :: (x ++ R t).take 1 = [32, 125] from z)).1
              exact hsu (by rw [hx, this]; simp)
            · obtain ⟨z1, z2⟩ := List.cons.inj (show k :: (x ++ R t).take 1 = [59, 32] from z)
              cases x with
              | nil => exact c2 (TL.ext_tl (by rw [hx, z1, tl_shutS]))
              | cons m x =>
                have := (List.cons.inj (show [m] = [32] from z2)).1
                exact hsu (by rw [hx, this]; simp)
theorem item_rel {rp : PT} {rl : PL'} (hr : ∀ ws, ws ≠ [] → Sf ws → Rel ws (rp (J ws)) (rl ws)) (h0 : rl [] = none) {ws : List Str} (hne : ws ≠ []) (hs : Sf ws) : RelI ws (itemP rp (J ws)) (itemL rl ws) := by
  obtain ⟨t1, t2⟩ := try_ahead hne hs
  cases ws with
  | nil => exact absurd rfl hne
  | cons w0 r0 =>
    unfold itemP itemL
    by_cases hw : w0 = wTry
    · subst hw
      rw [show (wTry :: r0).take 1 = [wTry] from rfl, if_pos (c := ([wTry] : List Str) = [wTry]) rfl, show (wTry :: r0).drop 1 = r0 from rfl]
      by_cases ho : ∃ r, r ≠ [] ∧ r0 = wOpen :: r
      · obtain ⟨r, hr0, rfl⟩ := ho
        rw [if_pos (t1.mpr ⟨r, hr0, rfl⟩), t2 r hr0 rfl]
        have hsr : Sf r := hs.tail.tail
        unfold rdTry tryL
        rw [show (wOpen :: r).take 1 = [wOpen] from rfl, if_pos (c := ([wOpen] : List Str) = [wOpen]) rfl, show (wOpen :: r).drop 1 = r from rfl]
        rcases hr r hr0 hsr with ⟨hp, hl⟩ | ⟨a, pre, w, t, e, hw, hl, hp, hh⟩
        · have h1 : (match rp (J r) with
            | none => none
            | some (a, r) => if r.take 10 = elseW then (match rp (r.drop 10) with
              | none => none
              | some (b, r2) => if r2.take 2 = endW then some (tryD a b, r2.drop 2) else none) else none : Option (D × List Nat)) = none := by
            rcases hp with hp | ⟨b, r2, hp, g1, g2⟩
            · rw [hp]
            · rw [hp]
              exact if_neg fun z => g2 (take_else z)
          rw [h1]
          rcases hl with hl | ⟨b, w, t, hl, g⟩
          · rw [hl]; exact both_none _
          · rw [hl]
            have : (w :: t).take 3 ≠ [wShut, wElse, wOpen] := fun z => g (hd_shut (.inl (List.cons.inj (show w :: t.take 2 = [wShut, wElse, wOpen] from z)).1))
            show RelI _ none (match (if (w :: t).take 3 = [wShut, wElse, wOpen] then _ else none : Option (D × List Str)) with
              | none => none
              | some (x, r) => _)
            rw [if_neg this]
            exact both_none _
        · rw [hp, hl]
          have hst : Sf t := by
            rw [e] at hsr
            exact (Sf.app hsr).2.tail
          obtain ⟨l1, l2⟩ := else_ahead hst
          by_cases he : ∃ r', r' ≠ [] ∧ t = wShut :: wElse :: wOpen :: r'
          · obtain ⟨r', hr', rfl⟩ := he
            show RelI _ (if (R (wShut :: wElse :: wOpen :: r')).take 10 = elseW then _ else none) (match (if (wShut :: wElse :: wOpen :: r').take 3 = [wShut, wElse, wOpen] then _ else none : Option (D × List Str)) with
              | none => none
              | some (x, r) => _)
            rw [if_pos (l1.mpr ⟨r', hr', rfl⟩), l2 r' hr' rfl, if_pos (show (wShut :: wElse :: wOpen :: r').take 3 = [wShut, wElse, wOpen] from rfl)]
            exact second_rel (pre := wTry :: wOpen :: (pre ++ [w, wShut, wElse, wOpen])) hr' hst.tail.tail.tail (by rw [e]; simp) (hr r' hr' hst.tail.tail.tail)
          · show RelI _ (if (R t).take 10 = elseW then _ else none) (match (if t.take 3 = [wShut, wElse, wOpen] then _ else none : Option (D × List Str)) with
              | none => none
              | some (x, r) => _)
            rw [if_neg (fun z => he (l1.mp z))]
            by_cases h3 : t.take 3 = [wShut, wElse, wOpen]
            · rw [if_pos h3]
              have : t.drop 3 = [] := by
                by_cases z : t.drop 3 = []
                · exact z
                · refine absurd ⟨t.drop 3, z, ?_⟩ he
                  have := List.take_append_drop 3 t
                  rw [h3] at this
                  exact this.symm
              rw [this, h0]
              exact both_none _
            · rw [if_neg h3]
              exact both_none _
      · rw [if_neg (fun z => by
          obtain ⟨r, g1, g2⟩ := t1.mp z
          exact ho ⟨r, g1, (List.cons.inj g2).2⟩), cmd_try hne hs rfl]
        have : tryL rl r0 = none := by
          unfold tryL
          by_cases h1 : r0.take 1 = [wOpen]
          · rw [if_pos h1]
            have : r0.drop 1 = [] := by
              by_cases z : r0.drop 1 = []
              · exact z
              · refine absurd ⟨r0.drop 1, z, ?_⟩ ho
                have := List.take_append_drop 1 r0
                rw [h1] at this
                exact this.symm
            rw [this, h0]
          · rw [if_neg h1]
        rw [this]
        exact both_none _
    · rw [if_neg (fun z => by
        obtain ⟨r, g1, g2⟩ := t1.mp z
        exact hw (List.cons.inj g2).1), if_neg (c := (w0 :: r0).take 1 = [wTry]) (fun z => hw (List.cons.inj (show [w0] = [wTry] from z)).1)]
      exact cmd_rel hne hs
theorem tl_dash : TL.tl wDash = [45] := by decide +kernel
theorem block_rel {rp : PT} {rl : PL'} (hr : ∀ ws, ws ≠ [] → Sf ws → Rel ws (rp (J ws)) (rl ws)) (h0 : rl [] = none) {ws : List Str} (hne : ws ≠ []) (hs : Sf ws) : Rel ws (blockP rp (J ws)) (blockL rl ws) := by
  cases ws with
  | nil => exact absurd rfl hne
  | cons w r =>
    unfold blockP blockL
    show Rel _ _ (if w = wDash then some (.tup [], r) else loopL rl (r.length + 2) (w :: r) [])
    by_cases hw : w = wDash
    · subst hw
      have e : J (wDash :: r) = 45 :: R r := by rw [J_cons, tl_dash]; rfl
      rw [if_pos rfl, e, if_pos (show (45 :: R r).take 1 = [45] from rfl)]
      show Rel _ (some (D.tup [], R r)) _
      cases r with
      | nil => exact .inr ⟨_, [], wDash, [], rfl, by unfold ends; decide +kernel, rfl, rfl, fun u t' z => nomatch z⟩
      | cons u t =>
        by_cases hu : hd125 u
        · exact .inr ⟨_, [], wDash, u :: t, rfl, by unfold ends; decide +kernel, rfl, rfl, fun u t' z => by cases z; exact hu⟩
        · exact .inl ⟨.inr ⟨_, _, rfl, fun z => (nomatch z), R_end hu⟩, .inr ⟨_, _, _, rfl, hu⟩⟩
    · rw [if_neg hw]
      by_cases hd : (J (w :: r)).take 1 = [45]
      · rw [if_pos hd]
        obtain ⟨x, hx⟩ : ∃ x, TL.tl w = 45 :: x := by
          rw [J_cons] at hd
          cases q : TL.tl w with
          | nil =>
            rw [q] at hd
            cases r with
            | nil => cases hd
            | cons v r => exact absurd (List.cons.inj (show [32] = [45] from hd)).1 (by decide)
          | cons k x =>
            rw [q] at hd
            exact ⟨x, by rw [(List.cons.inj (show [k] = [45] from hd)).1]⟩
        have hsw : 32 ∉ TL.tl w := hs w List.mem_cons_self
        have ej : (J (w :: r)).drop 1 = x ++ R r := by rw [J_cons, hx]; rfl
        have hxn : x ≠ [] := fun z => hw (TL.ext_tl (by rw [hx, z, tl_dash]))
        left
        constructor
        · refine .inr ⟨_, _, rfl, ?_, ?_⟩
          · rw [ej]
            exact fun z => hxn (List.append_eq_nil_iff.mp z).1
          · rw [ej]
            intro z
            cases x with
            | nil => exact hxn rfl
            | cons k x =>
              have := (List.cons.inj (show k :: (x ++ R r).take 1 = [32, 125] from z)).1
              exact hsw (by rw [hx, this]; simp)
        · left
          have : itemL rl (w :: r) = none := by
            unfold itemL
            rw [if_neg (fun z => by
              have z := (List.cons.inj (show [w] = [wTry] from z)).1
              rw [z, tl_try] at hx
              exact absurd (List.cons.inj hx).1 (by decide))]
            cases hn : isNone (cIn (rowC (w :: r))) with
            | true => rfl
            | false =>
              exfalso
              obtain ⟨pre, v, w2, next, hv, g1, g2, g3⟩ := cmd_law hn
              cases pre with
              | nil =>
                have := hv.sh
                simp at this
              | cons p pre =>
                obtain ⟨e1, e2⟩ := List.cons.inj g2
                exact hv.nd p rfl (by rw [← e1, hx]; rfl)
          unfold loopL
          rw [this]
      · rw [if_neg hd]
        refine loop_rel (fun ws hne hs => item_rel hr h0 hne hs) _ _ _ _ (fun z => nomatch z) hs (by omega) (by simp only [List.length_cons]; omega)
theorem prog_rel : ∀ (n : Nat) (ws : List Str), ws ≠ [] → Sf ws → Rel ws (progP n (J ws)) (progL n ws)
  | 0, ws, _, _ => .inl ⟨.inl rfl, .inl rfl⟩
  | n + 1, ws, hne, hs => block_rel (prog_rel n) (by cases n <;> rfl) hne hs
end Q82

namespace Q82
open PySem PySem.Spec L2 PL
/-! ### texts at places -/
theorem lz (a : Str) : (TL.tl a).length = a.length := (TL.len_tl a).symm
theorem slD_mid {a : Str} {i j : Nat} (h : i ≤ j) : slD (.str a) (some (i : Int)) (some (j : Int)) = ret (.str (mkS (((TL.tl a).drop i).take (j - i)))) := by
  rw [slD_str]
  refine congrArg (fun z => PL.ret (D.str z)) (str_ext ?_)
  unfold cutS
  have hl : (TL.tl a).length = a.length := lz a
  rw [HT.sIx_nat, HT.sIx_nat]
  show (((TL.tl a).drop (min i a.length)).take (min j a.length - min i a.length)) = ((TL.tl a).drop i).take (j - i)
  by_cases h1 : i ≤ a.length
  · rw [Nat.min_eq_left h1]
    by_cases h2 : j ≤ a.length
    · rw [Nat.min_eq_left h2]
    · rw [Nat.min_eq_right (by omega), List.take_of_length_le (by rw [List.length_drop]; omega), List.take_of_length_le (by rw [List.length_drop]; omega)]
  · rw [List.drop_of_length_le (by omega), List.drop_of_length_le (by omega), List.take_nil, List.take_nil]
theorem slD_back {a : Str} (p : Nat) : ∃ x, slD (.str a) (some (p : Int)) (some ((p : Int) - 1)) = ret (.str (mkS x)) ∧ x.length ≤ a.length ∧ (x = [] ∨ x.head? = ((TL.tl a).drop p).head?) := by
  refine ⟨TL.tl (cutS a (some (p : Int)) (some ((p : Int) - 1))), by rw [mkS_tl]; rfl, by rw [lz]; exact cut_le .., ?_⟩
  unfold cutS
  show (((TL.tl a).drop (HT.sIx a.length 0 (some (p : Int)))).take _) = [] ∨ (((TL.tl a).drop (HT.sIx a.length 0 (some (p : Int)))).take _).head? = _
  rw [HT.sIx_nat]
  cases p with
  | zero =>
    rw [Nat.zero_min, List.drop_zero, Nat.sub_zero]
    generalize HT.sIx a.length a.length (some (((0 : Nat) : Int) - 1)) = m
    cases m with
    | zero => exact .inl List.take_zero
    | succ m =>
      cases TL.tl a with
      | nil => exact .inl rfl
      | cons c r => exact .inr rfl
  | succ p =>
    left
    rw [show (((p + 1 : Nat) : Int) - 1) = ((p : Nat) : Int) by omega, HT.sIx_nat, show min p a.length - min (p + 1) a.length = 0 by omega, List.take_zero]
theorem eqmk (l : List Nat) (w : Str) : (mkS l == w) = decide (l = TL.tl w) := by
  by_cases h : l = TL.tl w
  · rw [decide_eq_true h, h, mkS_tl, beq_self_eq_true]
  · rw [decide_eq_false h]
    cases q : mkS l == w with
    | false => rfl
    | true => exact absurd (by rw [← eq_of_beq q, tl_mkS]) h
theorem eq_sl {a : Str} {i j : Nat} (h : i ≤ j) (w : Str) : (bnd (slD (.str a) (some (i : Int)) (some (j : Int))) fun s => eqB s (.str w)) = ret (decide (((TL.tl a).drop i).take (j - i) = TL.tl w)) := by
  rw [slD_mid h, bnd_ret, eqB_str, eqmk]
theorem ne_sl {a : Str} {i j : Nat} (h : i ≤ j) (w : Str) : (bnd (slD (.str a) (some (i : Int)) (some (j : Int))) fun s => neB s (.str w)) = ret (!decide (((TL.tl a).drop i).take (j - i) = TL.tl w)) := by
  rw [slD_mid h, bnd_ret, neB_str, eqmk]
theorem ix_ch {a : Str} {p c : Nat} {r : List Nat} (h : (TL.tl a).drop p = c :: r) : ixD (.str a) (.int (p : Int)) = ret (chD c) := by
  refine ix_s (atI_nat ?_)
  have := congrArg List.head? h
  rw [List.head?_drop] at this
  exact this
theorem drop_lt {s : List Nat} {p c : Nat} {r : List Nat} (h : s.drop p = c :: r) : p < s.length ∧ s.drop (p + 1) = r := by
  have hl := congrArg List.length h
  rw [List.length_drop, List.length_cons] at hl
  refine ⟨by omega, ?_⟩
  rw [← List.drop_drop, h]
  rfl
/-! ### while -/
section
variable {J γ : Type} {t : J → W Bool} {bd : J → W (Step J γ)} {k : J → W γ} {j j' : J}
theorem while_step {s : Step J γ} (ht : t j = PL.ret true) (hb : bd j = PL.ret s) : whileE t bd k j = forK k (fun j' => whileE t bd k j') s := by
  funext n P PX
  apply propext
  have e : ∀ f, whileT t bd k (f + 1) j = forK k (fun j' => whileT t bd k f j') s := fun f => by
    show bnd (t j) _ = _
    rw [ht, bnd_ret, if_pos rfl, hb, bnd_ret]
  constructor
  · rintro ⟨f, h⟩
    cases f with
    | zero => exact h.elim
    | succ f =>
      rw [e] at h
      cases s with
      | go j' => exact ⟨f, h⟩
      | bk j' => exact h
      | out g => exact h
  · intro h
    cases s with
    | go j' =>
      obtain ⟨f, h⟩ := h
      exact ⟨f + 1, by rw [e]; exact h⟩
    | bk j' => exact ⟨1, by rw [e]; exact h⟩
    | out g => exact ⟨1, by rw [e]; exact h⟩
theorem while_end (ht : t j = PL.ret false) : whileE t bd k j = k j := by
  funext n P PX
  apply propext
  have e : ∀ f, whileT t bd k (f + 1) j = k j := fun f => by
    show bnd (t j) _ = _
    rw [ht, bnd_ret, if_neg (by decide)]
  constructor
  · rintro ⟨f, h⟩
    cases f with
    | zero => exact h.elim
    | succ f => rw [e] at h; exact h
  · intro h
    exact ⟨1, by rw [e]; exact h⟩
end
/-! ### where a command ends -/
theorem in_semi (c : Nat) : bnd (inStr true (chD c) (.str (Str.ofString ";}"))) (fun k => blB k) = ret (nsc c) := by
  have e : (Str.ofString ";}").cps.toList = [59, 125] := by decide +kernel
  show bnd (PL.ret (D.bl (!decide (c ∈ (Str.ofString ";}").cps.toList)))) _ = _
  rw [e, bnd_ret, blB_bl]
  congr 1
  unfold nsc
  by_cases h1 : c = 59
  · subst h1; rfl
  · by_cases h2 : c = 125
    · subst h2; rfl
    · simp [h1, h2]
theorem cend_run {a : Str} {γ : Type} {K : Int → W γ} : ∀ (r : List Nat) (p : Nat), (TL.tl a).drop p = r → p ≤ a.length →
    whileE (fun j => andB (bnd (lenI (.str a)) fun n => ret (decide (j < n))) (bnd (ixD (.str a) (.int j)) fun y => bnd (inStr true y (.str (Str.ofString ";}"))) fun k => blB k)) (fun j => ret (.go (j + 1))) K (p : Int) = K ((p + (r.takeWhile nsc).length : Nat) : Int)
  | [], p, h, hp => by
    have : ¬ p < a.length := fun z => by
      have := congrArg List.length h
      rw [List.length_drop, lz, List.length_nil] at this
      omega
    exact while_end (by
      show andB (bnd (PL.ret (a.length : Int)) _) _ = _
      rw [bnd_ret, decide_eq_false (by omega), andB0])
  | c :: r, p, h, hp => by
    obtain ⟨h1, h2⟩ := drop_lt h
    rw [lz] at h1
    have ht : andB (bnd (lenI (.str a)) fun n => ret (decide ((p : Int) < n))) (bnd (ixD (.str a) (.int p)) fun y => bnd (inStr true y (.str (Str.ofString ";}"))) fun k => blB k) = ret (nsc c) := by
      show andB (bnd (PL.ret (a.length : Int)) _) _ = _
      rw [bnd_ret, decide_eq_true (by omega), andB1, ix_ch h, bnd_ret, in_semi]
    cases hc : nsc c with
    | true =>
      rw [hc] at ht
      refine (while_step (s := .go ((p : Int) + 1)) (j := (p : Int)) ht rfl).trans ?_
      rw [List.takeWhile_cons, if_pos hc]
      show whileE _ _ K ((p : Int) + 1) = _
      rw [show (p : Int) + 1 = ((p + 1 : Nat) : Int) by omega, cend_run r (p + 1) h2 (by omega), List.length_cons, show p + 1 + (r.takeWhile nsc).length = p + ((r.takeWhile nsc).length + 1) by omega]
    | false =>
      rw [hc] at ht
      refine (while_end (j := (p : Int)) ht).trans ?_
      rw [List.takeWhile_cons, if_neg (by rw [hc]; decide)]
      rfl
theorem ix_any {a : Str} (q : Nat) (hq : q < a.length) : ∃ c, ixD (.str a) (.int ((q : Int) - 1)) = ret (chD c) := by
  cases q with
  | zero =>
    have hne : a.cps.toList ≠ [] := fun z => by
      have := lz a
      rw [show TL.tl a = a.cps.toList from rfl, z] at this
      simp at this
      omega
    refine ⟨a.cps.toList.getLast hne, ix_s ?_⟩
    have := atI_last a.cps.toList.dropLast (a.cps.toList.getLast hne)
    rw [List.dropLast_concat_getLast] at this
    exact this
  | succ q =>
    have hl : q < (TL.tl a).length := by rw [lz]; omega
    exact ⟨(TL.tl a)[q], by rw [show ((q + 1 : Nat) : Int) - 1 = ((q : Nat) : Int) by omega]; exact ix_ch (List.drop_eq_getElem_cons hl)⟩
abbrev tw (s : List Nat) : List Nat := s.takeWhile nsc
abbrev dw (s : List Nat) : List Nat := s.dropWhile nsc
theorem eq_ch (c : Nat) (w : Str) {k : Nat} (h : TL.tl w = [k]) : eqB (chD c) (.str w) = ret (decide (c = k)) := by
  show eqB (.str (mkS [c])) (.str w) = _
  rw [eqB_str, eqmk, h]
  simp
theorem ret_inj {x y : D} (h : (PL.ret x : W D) = PL.ret y) : x = y := by
  have := congrFun (congrFun (congrFun h n0) fun z _ => z = y) fun _ _ => True
  exact this.mpr rfl
theorem command_end_ok {a : Str} {p : Nat} (hp : p ≤ a.length) : ∃ e : Int, d_command_end (.str a) (p : Int) = ret (.int e) ∧
    ((e = ((p + (tw ((TL.tl a).drop p)).length : Nat) : Int) ∧ ¬((dw ((TL.tl a).drop p)).head? = some 125 ∧ (tw ((TL.tl a).drop p)).getLast? = some 32)) ∨
     (e = ((p + (tw ((TL.tl a).drop p)).length : Nat) : Int) - 1 ∧ ((dw ((TL.tl a).drop p)).head? = some 125 ∧ (tw ((TL.tl a).drop p)).getLast? = some 32)) ∨
     (e = (p : Int) - 1 ∧ tw ((TL.tl a).drop p) = [] ∧ (dw ((TL.tl a).drop p)).head? = some 125)) := by
  unfold d_command_end
  rw [cend_run _ p rfl hp]
  generalize hs : (TL.tl a).drop p = s
  have happ : tw s ++ dw s = s := List.takeWhile_append_dropWhile
  have hdq : (TL.tl a).drop (p + (tw s).length) = dw s := by
    rw [← List.drop_drop, hs]
    have := List.drop_left (l₁ := tw s) (l₂ := dw s)
    rw [happ] at this
    exact this
  generalize hq : p + (tw s).length = q at hdq
  cases hd : dw s with
  | nil =>
    rw [hd] at hdq
    have : ¬ q < a.length := fun z => by
      have := congrArg List.length hdq
      rw [List.length_drop, lz, List.length_nil] at this
      omega
    refine ⟨q, ?_, .inl ⟨rfl, fun z => by cases z.1⟩⟩
    show bnd (andB (bnd (PL.ret (a.length : Int)) _) _) _ = _
    rw [bnd_ret, decide_eq_false (by omega), andB0, bnd_ret, if_neg (by decide)]
  | cons c t =>
    rw [hd] at hdq
    obtain ⟨h1, h2⟩ := drop_lt hdq
    rw [lz] at h1
    have e1 : ∀ m : W Bool, andB (bnd (lenI (.str a)) fun n1 => ret (decide ((q : Int) < n1))) (andB (bnd (ixD (.str a) (.int (q : Int))) fun y1 => eqB y1 (.str (Str.ofString "}"))) m) = andB (ret (decide (c = 125))) m := fun m => by
      show andB (bnd (PL.ret (a.length : Int)) _) _ = _
      rw [bnd_ret, decide_eq_true (by omega), andB1, ix_ch hdq, bnd_ret, eq_ch c _ (k := 125) (by decide +kernel)]
    rw [e1]
    by_cases hc : c = 125
    · subst hc
      rw [decide_eq_true rfl, andB1]
      obtain ⟨k, hk⟩ := ix_any q h1
      rw [hk, bnd_ret, eq_ch k _ (k := 32) (by decide +kernel), bnd_ret]
      cases hu : tw s with
      | nil =>
        rw [hu] at hq
        have hq : p = q := hq
        subst hq
        by_cases h32 : k = 32
        · rw [decide_eq_true h32, if_pos rfl]
          exact ⟨_, rfl, .inr (.inr ⟨rfl, rfl, rfl⟩)⟩
        · rw [decide_eq_false h32, if_neg (by decide)]
          exact ⟨_, rfl, .inl ⟨rfl, fun z => by cases z.2⟩⟩
      | cons u0 ur =>
        have hne : tw s ≠ [] := by rw [hu]; exact fun z => nomatch z
        obtain ⟨q', rfl⟩ : ∃ q', q = q' + 1 := ⟨q - 1, by rw [hu, List.length_cons] at hq; omega⟩
        have hlast : (tw s).getLast? = some k := by
          have hpre := List.dropLast_concat_getLast hne
          have hd2 : (TL.tl a).drop q' = (tw s).getLast hne :: dw s := by
            have hl : q' = p + (tw s).dropLast.length := by rw [List.length_dropLast]; rw [hu, List.length_cons] at hq ⊢; omega
            rw [hl, ← List.drop_drop, hs]
            have e : (tw s).dropLast ++ ((tw s).getLast hne :: dw s) = s := by
              rw [show (tw s).dropLast ++ ((tw s).getLast hne :: dw s) = ((tw s).dropLast ++ [(tw s).getLast hne]) ++ dw s by simp, hpre, happ]
            have := List.drop_left (l₁ := (tw s).dropLast) (l₂ := (tw s).getLast hne :: dw s)
            rw [e] at this
            exact this
          have := ix_ch hd2
          rw [show ((q' + 1 : Nat) : Int) - 1 = ((q' : Nat) : Int) by omega, this] at hk
          have hk := ret_inj hk
          rw [List.getLast?_eq_some_getLast hne]
          have := congrArg (fun d => match d with | .str s => TL.tl s | _ => []) hk
          exact congrArg some (List.cons.inj this).1
        rw [← hu, hlast]
        by_cases h32 : k = 32
        · subst h32
          rw [decide_eq_true rfl, if_pos rfl]
          exact ⟨_, rfl, .inr (.inl ⟨rfl, rfl, rfl⟩)⟩
        · rw [decide_eq_false h32, if_neg (by decide)]
          exact ⟨_, rfl, .inl ⟨rfl, fun z => h32 (Option.some.inj z.2)⟩⟩
    · rw [decide_eq_false hc, andB0, bnd_ret, if_neg (by decide)]
      exact ⟨_, rfl, .inl ⟨rfl, fun z => hc (Option.some.inj z.1)⟩⟩
end Q82

namespace Q82
open PySem PySem.Spec L2 PL
/-! ### the program's reader -/
def pr (n : Nat) : Option (D × List Nat) → D
  | none => .non
  | some (x, r) => .tup [x, .int ((n - r.length : Nat) : Int)]
def AtS (s : List Nat) (p : Nat) (o : Option (D × List Nat)) : Prop := ∀ x r, o = some (x, r) → ∃ q, p ≤ q ∧ q ≤ s.length ∧ r = s.drop q
theorem AtS.none {s : List Nat} {p : Nat} : AtS s p none := fun _ _ h => nomatch h
theorem pr_at {s : List Nat} {q : Nat} (h : q ≤ s.length) (x : D) : pr s.length (some (x, s.drop q)) = .tup [x, .int (q : Int)] := by
  show D.tup [x, .int ((s.length - (s.drop q).length : Nat) : Int)] = _
  rw [List.length_drop, show s.length - (s.length - q) = q by omega]
theorem split_words (u : List Nat) : Txt.split (mkS u) tSp = wordsL u := by
  have e := TL.split_spl (mkS u) tSp (by decide +kernel) (TL.kind_ok (by decide +kernel))
  rw [show TL.tl tSp = [32] by decide +kernel, tl_mkS] at e
  apply TL.map_tl_inj
  rw [e]
  unfold wordsL
  rw [map_mkS]
theorem cmd_words {u : List Nat} (h : u.length ≤ Big) : d_command_in (.str (mkS u)) = ret (cW u) := by
  rw [command_in_eq (by rw [TL.len_tl, tl_mkS]; exact h), split_words]
  rfl
theorem cW_bad {x : List Nat} (h : x = [] ∨ x.head? = some 125) : isNone (cW x) = true := by
  cases hn : isNone (cW x) with
  | true => rfl
  | false =>
    exfalso
    have hv : V (wordsL x) := cIn_V hn
    have e := (words_ok x).2.2
    have hk := hv.nsc
    rw [e] at hk
    rcases h with rfl | h
    · cases hw : wordsL [] with
      | nil => exact hv.ne hw
      | cons w r =>
        rw [hw] at hv e
        rw [J_cons] at e
        exact (hv.ok w List.mem_cons_self).1 (List.append_eq_nil_iff.mp e).1
    · cases x with
      | nil => cases h
      | cons c x =>
        have := hk c List.mem_cons_self
        rw [Option.some.inj h] at this
        cases this
theorem cmdP_none {s : List Nat} (h : isNone (cW (cutC s).1) = true) : cmdP s = none := if_pos h
theorem cmd_at {a : Str} (ha : a.length ≤ Big) {p : Nat} (hp : p ≤ a.length) :
    (bnd (cl (d_command_end (.str a) (p : Int))) fun endV =>
    bnd (bnd (intI endV) fun i => bnd (slD (.str a) (some (p : Int)) (some i)) fun s1 => cl (d_command_in s1)) fun command =>
    if (!isNone command) = true then ret (.tup [command, endV]) else ret .non) = ret (pr (TL.tl a).length (cmdP ((TL.tl a).drop p))) ∧ AtS (TL.tl a) p (cmdP ((TL.tl a).drop p)) := by
  obtain ⟨e, he, hc⟩ := command_end_ok hp
  generalize hs : (TL.tl a).drop p = s at hc
  have happ : tw s ++ dw s = s := List.takeWhile_append_dropWhile
  have hsl : s.length = a.length - p := by rw [← hs, List.length_drop, lz]
  have hl : (tw s).length + (dw s).length = s.length := by rw [← List.length_append, happ]
  have hdw : ∀ m, m ≤ (tw s).length → (TL.tl a).drop (p + m) = s.drop m := fun m _ => by rw [← List.drop_drop, hs]
  have hdq : s.drop (tw s).length = dw s := by
    have := List.drop_left (l₁ := tw s) (l₂ := dw s)
    rw [happ] at this
    exact this
  have htk : s.take (tw s).length = tw s := by
    have := List.take_left (l₁ := tw s) (l₂ := dw s)
    rw [happ] at this
    exact this
  rw [he, cl_ret, bnd_ret]
  show (bnd (bnd (slD (.str a) (some (p : Int)) (some e)) fun s1 => cl (d_command_in s1)) fun command => _) = _ ∧ _
  have fin : ∀ (u r : List Nat) (q : Nat), cutC s = (u, r) → u.length ≤ Big → p ≤ q → q ≤ (TL.tl a).length → r = (TL.tl a).drop q → slD (.str a) (some (p : Int)) (some e) = ret (.str (mkS u)) → e = (q : Int) →
      (bnd (bnd (slD (.str a) (some (p : Int)) (some e)) fun s1 => cl (d_command_in s1)) fun command => if (!isNone command) = true then ret (D.tup [command, .int e]) else ret D.non) = ret (pr (TL.tl a).length (cmdP s)) ∧ AtS (TL.tl a) p (cmdP s) := fun u r q h1 h2 h3 h4 h5 h6 h7 => by
    rw [h6, bnd_ret, cmd_words h2, cl_ret, bnd_ret]
    unfold cmdP
    rw [h1]
    show (if (!isNone (cW u)) = true then _ else _) = PL.ret (pr _ (if isNone (cW u) = true then none else some (cW u, r))) ∧ AtS _ _ (if isNone (cW u) = true then none else some (cW u, r))
    cases isNone (cW u) with
    | true => exact ⟨rfl, .none⟩
    | false =>
      rw [if_pos (c := (!false) = true) rfl, if_neg (c := false = true) (by decide), h5, pr_at h4, h7]
      exact ⟨rfl, fun x r' e => by cases e; exact ⟨q, h3, h4, rfl⟩⟩
  rcases hc with ⟨rfl, h⟩ | ⟨rfl, h⟩ | ⟨rfl, h1, h2⟩
  · refine fin (tw s) (dw s) (p + (tw s).length) (cutC_no rfl rfl h) (by omega) (Nat.le_add_right _ _) (by rw [lz]; omega) (by rw [hdw _ (Nat.le_refl _), hdq]) ?_ rfl
    rw [slD_mid (Nat.le_add_right _ _), hs, show p + (tw s).length - p = (tw s).length by omega, htk]
  · obtain ⟨g1, g2⟩ := h
    have hne : tw s ≠ [] := fun z => by rw [z] at g2; cases g2
    have hlast := List.dropLast_concat_getLast hne
    rw [List.getLast?_eq_some_getLast hne] at g2
    rw [Option.some.inj g2] at hlast
    obtain ⟨t, ht⟩ : ∃ t, dw s = 125 :: t := by
      cases hd : dw s with
      | nil => rw [hd] at g1; cases g1
      | cons c t => rw [hd] at g1; exact ⟨t, by rw [Option.some.inj (show some c = some 125 from g1)]⟩
    have hlen : (tw s).length = (tw s).dropLast.length + 1 := by
      conv => lhs; rw [← hlast]
      rw [List.length_append]
      rfl
    have e3 : (tw s).dropLast ++ (32 :: 125 :: t) = s := by
      rw [show (tw s).dropLast ++ (32 :: 125 :: t) = ((tw s).dropLast ++ [32]) ++ 125 :: t by simp, hlast, ← ht, happ]
    have hd3 := List.drop_left (l₁ := (tw s).dropLast) (l₂ := 32 :: 125 :: t)
    rw [e3] at hd3
    have ht3 := List.take_left (l₁ := (tw s).dropLast) (l₂ := 32 :: 125 :: t)
    rw [e3] at ht3
    refine fin (tw s).dropLast (32 :: 125 :: t) (p + (tw s).dropLast.length) (cutC_yes hlast.symm ht) (by omega) (Nat.le_add_right _ _) (by rw [lz]; omega) (by rw [hdw _ (by omega), hd3]) ?_ (by omega)
    rw [show ((p + (tw s).length : Nat) : Int) - 1 = ((p + (tw s).dropLast.length : Nat) : Int) by omega, slD_mid (Nat.le_add_right _ _), hs, show p + (tw s).dropLast.length - p = (tw s).dropLast.length by omega, ht3]
  · obtain ⟨x, hx, hxl, hxx⟩ := slD_back (a := a) p
    rw [hs] at hxx
    have hs0 : s.head? = some 125 := by
      rw [← happ, h1]
      exact h2
    have b1 : isNone (cW x) = true := cW_bad (hxx.imp id fun z => z.trans hs0)
    have hcut : cutC s = ([], dw s) := cutC_no h1 rfl (fun z => by cases z.2)
    have b2 : cmdP s = none := cmdP_none (by rw [hcut]; exact cW_bad (.inl rfl))
    rw [hx, bnd_ret, cmd_words (by omega), cl_ret, bnd_ret, b1, b2]
    exact ⟨rfl, .none⟩
theorem iT0 (x : D) (xs : List D) : ixD (.tup (x :: xs)) (.int 0) = PL.ret x := ix_t (atI_nat (j := 0) rfl)
theorem iT1 (a x : D) (xs : List D) : ixD (.tup (a :: x :: xs)) (.int 1) = PL.ret x := ix_t (atI_nat (j := 1) rfl)
theorem intI_i (i : Int) : intI (.int i) = PL.ret i := rfl
/-- a level below -/
def Lev (a : Str) (d : Int) (recF : List SV → W D) (rc : PT) : Prop := ∀ q, q ≤ a.length → recF [.d (.str a), .d (.int (q : Int)), .d (.int d)] = ret (pr (TL.tl a).length (rc ((TL.tl a).drop q))) ∧ AtS (TL.tl a) q (rc ((TL.tl a).drop q))
theorem take_len {s p : List Nat} {m : Nat} (h : s.take m = p) (hp : p.length = m) : m ≤ s.length := by
  have := congrArg List.length h
  rw [List.length_take] at this
  omega
theorem item_eq {a : Str} (ha : a.length ≤ Big) {d : Int} {recF : List SV → W D} {rc : PT} (hr : Lev a (d + 1) recF rc) {p : Nat} (hp : p ≤ a.length) :
    d_item_at recF (.str a) (p : Int) d = ret (pr (TL.tl a).length (itemP rc ((TL.tl a).drop p))) ∧ AtS (TL.tl a) p (itemP rc ((TL.tl a).drop p)) := by
  unfold d_item_at itemP
  rw [show ((Str.ofString "try { ").length : Int) = ((6 : Nat) : Int) by decide +kernel, show ((Str.ofString " } else { ").length : Int) = ((10 : Nat) : Int) by decide +kernel, show ((Str.ofString " }").length : Int) = ((2 : Nat) : Int) by decide +kernel, ← Int.natCast_add, ne_sl (Nat.le_add_right _ _), bnd_ret, show p + 6 - p = 6 by omega, show TL.tl (Str.ofString "try { ") = tryW by decide +kernel]
  by_cases ht : ((TL.tl a).drop p).take 6 = tryW
  · rw [if_pos ht, decide_eq_true ht, Bool.not_true, if_neg (by decide)]
    have h6 := take_len ht rfl
    rw [List.length_drop, lz] at h6
    obtain ⟨r1, r2⟩ := hr (p + 6) (by omega)
    rw [r1, cl_ret, bnd_ret, List.drop_drop]
    unfold rdTry
    cases ho : rc ((TL.tl a).drop (p + 6)) with
    | none => exact ⟨rfl, .none⟩
    | some z =>
      obtain ⟨x, r⟩ := z
      obtain ⟨q, q1, q2, rfl⟩ := r2 x r ho
      rw [pr_at q2]
      have q3 := q2
      rw [lz] at q3
      simp only [iT0, iT1, bnd_ret, intI_i]
      rw [show isNone (.tup [x, .int (q : Int)]) = false from rfl, orB0, ← Int.natCast_add, ne_sl (Nat.le_add_right _ _), bnd_ret, show q + 10 - q = 10 by omega, show TL.tl (Str.ofString " } else { ") = elseW by decide +kernel]
      by_cases he : ((TL.tl a).drop q).take 10 = elseW
      · rw [if_pos he, decide_eq_true he, Bool.not_true, if_neg (by decide)]
        have h10 := take_len he rfl
        rw [List.length_drop, lz] at h10
        obtain ⟨r3, r4⟩ := hr (q + 10) (by omega)
        rw [r3, cl_ret, bnd_ret, List.drop_drop]
        cases ho2 : rc ((TL.tl a).drop (q + 10)) with
        | none => exact ⟨rfl, .none⟩
        | some z =>
          obtain ⟨y, r⟩ := z
          obtain ⟨m, m1, m2, rfl⟩ := r4 y r ho2
          rw [pr_at m2]
          have m3 := m2
          rw [lz] at m3
          simp only [iT0, iT1, bnd_ret, intI_i]
          rw [show isNone (.tup [y, .int (m : Int)]) = false from rfl, orB0, ← Int.natCast_add, ne_sl (Nat.le_add_right _ _), bnd_ret, show m + 2 - m = 2 by omega, show TL.tl (Str.ofString " }") = endW by decide +kernel]
          by_cases hn : ((TL.tl a).drop m).take 2 = endW
          · rw [if_pos hn, decide_eq_true hn, Bool.not_true, if_neg (by decide), List.drop_drop]
            have h2 := take_len hn rfl
            rw [List.length_drop, lz] at h2
            have l2 : m + 2 ≤ (TL.tl a).length := by rw [lz]; omega
            rw [pr_at l2]
            exact ⟨rfl, fun x r e => by cases e; exact ⟨m + 2, by omega, l2, rfl⟩⟩
          · rw [if_neg hn, decide_eq_false hn, Bool.not_false, if_pos rfl]
            exact ⟨rfl, .none⟩
      · rw [if_neg he, decide_eq_false he, Bool.not_false, if_pos rfl]
        exact ⟨rfl, .none⟩
  · rw [if_neg ht, decide_eq_false ht, Bool.not_false, if_pos rfl]
    exact cmd_at ha hp
theorem loopP_none {rc : PT} {f : Nat} {s : List Nat} {acc : List D} (h : itemP rc s = none) : loopP rc (f + 1) s acc = none := by
  unfold loopP
  rw [h]
theorem loopP_some {rc : PT} {f : Nat} {s : List Nat} {acc : List D} {x : D} {r : List Nat} (h : itemP rc s = some (x, r)) : loopP rc (f + 1) s acc = if r.take 2 = [59, 32] then loopP rc f (r.drop 2) (acc ++ [x]) else some (.tup (acc ++ [x]), r) := by
  conv => lhs; unfold loopP
  rw [h]
theorem loop_eq {a : Str} (ha : a.length ≤ Big) {d : Int} {recF : List SV → W D} {rc : PT} (hr : Lev a (d + 1) recF rc) : ∀ (f p : Nat) (acc : List D), p ≤ a.length → a.length - p < f → acc.length + (a.length - p) ≤ 950000 →
    whileE (fun j => ret true) (fun (j : Int × List D) =>
    bnd (cl (mm_item_at recF [.d (.str a), .d (.int j.1), .d (.int d)])) fun found =>
    if (isNone found) = true then
    ret (.out .non)
    else
    bnd (ixD found (.int 0)) fun app => roomL j.2 (
    bnd (ixD found (.int 1)) fun startV1 =>
    bnd (bnd (intI startV1) fun i => bnd (intI startV1) fun i1 => bnd (slD (.str a) (some i) (some (i1 + 2))) fun s1 => neB s1 (.str (Str.ofString "; "))) fun kk => if kk = true then
    ret (.out (.tup [(.tup (j.2 ++ [app])), startV1]))
    else
    bnd (addI startV1 (.int 2)) fun startV2 =>
    ret (.go (startV2, (j.2 ++ [app]))))) (fun j1 =>
    ret .non) ((p : Int), acc) = ret (pr (TL.tl a).length (loopP rc f ((TL.tl a).drop p) acc)) ∧ AtS (TL.tl a) p (loopP rc f ((TL.tl a).drop p) acc)
  | 0, p, acc, _, h, _ => by omega
  | f + 1, p, acc, hp, hf, hl => by
    obtain ⟨e1, e2⟩ := item_eq ha hr hp
    cases ho : itemP rc ((TL.tl a).drop p) with
    | none =>
      rw [ho] at e1
      rw [loopP_none ho]
      refine ⟨Eq.trans (while_step (s := Step.out D.non) ?_ ?_) rfl, .none⟩
      · rfl
      show bnd (cl (d_item_at recF (.str a) (p : Int) d)) _ = _
      rw [e1, cl_ret, bnd_ret]
      rfl
    | some z =>
      obtain ⟨x, r⟩ := z
      obtain ⟨q, q1, q2, rfl⟩ := e2 x r ho
      rw [ho, pr_at q2] at e1
      rw [loopP_some ho]
      have q3 := q2
      rw [lz] at q3
      have hb : (bnd (cl (mm_item_at recF [.d (.str a), .d (.int (p : Int)), .d (.int d)])) fun found =>
          if (isNone found) = true then
          ret (.out .non)
          else
          bnd (ixD found (.int 0)) fun app => roomL acc (
          bnd (ixD found (.int 1)) fun startV1 =>
          bnd (bnd (intI startV1) fun i => bnd (intI startV1) fun i1 => bnd (slD (.str a) (some i) (some (i1 + 2))) fun s1 => neB s1 (.str (Str.ofString "; "))) fun kk => if kk = true then
          ret (.out (.tup [(.tup (acc ++ [app])), startV1]))
          else
          bnd (addI startV1 (.int 2)) fun startV2 =>
          ret (.go (startV2, (acc ++ [app])))) : W (Step (Int × List D) D)) = ret (if ((TL.tl a).drop q).take 2 = [59, 32] then .go (((q + 2 : Nat) : Int), acc ++ [x]) else .out (.tup [.tup (acc ++ [x]), .int (q : Int)])) := by
        show bnd (cl (d_item_at recF (.str a) (p : Int) d)) _ = _
        rw [e1, cl_ret, bnd_ret, show isNone (.tup [x, .int (q : Int)]) = false from rfl, if_neg (by decide), iT0, bnd_ret, room_pos (by omega), iT1, bnd_ret, intI_i, bnd_ret, bnd_ret]
        rw [show (q : Int) + 2 = ((q + 2 : Nat) : Int) by omega, ne_sl (Nat.le_add_right _ _), bnd_ret, show q + 2 - q = 2 by omega, show TL.tl (Str.ofString "; ") = [59, 32] by decide +kernel]
        by_cases hs : ((TL.tl a).drop q).take 2 = [59, 32]
        · rw [if_pos hs, decide_eq_true hs, Bool.not_true, if_neg (by decide)]
          show bnd (PL.ret ((q : Int) + 2)) _ = _
          rw [bnd_ret]
          rfl
        · rw [if_neg hs, decide_eq_false hs, Bool.not_false, if_pos rfl]
      by_cases hs : ((TL.tl a).drop q).take 2 = [59, 32]
      · rw [if_pos hs] at hb ⊢
        have h2 := take_len hs rfl
        rw [List.length_drop, lz] at h2
        obtain ⟨i1, i2⟩ := loop_eq ha hr f (q + 2) (acc ++ [x]) (by omega) (by omega) (by rw [List.length_append]; simp only [List.length_cons, List.length_nil]; omega)
        rw [List.drop_drop]
        refine ⟨Eq.trans (while_step ?_ hb) i1, fun x r e => ?_⟩
        · rfl
        obtain ⟨m, m1, m2, m3⟩ := i2 x r e
        exact ⟨m, by omega, m2, m3⟩
      · rw [if_neg hs] at hb ⊢
        refine ⟨Eq.trans (while_step ?_ hb) ?_, fun x r e => by cases e; exact ⟨q, q1, q2, rfl⟩⟩
        · rfl
        rw [pr_at q2]
        rfl
theorem prog_eq {a : Str} (ha : a.length ≤ Big) : ∀ (k n : Nat) (d : Int), d = 4 - k → k < n → k ≤ 4 → Lev a d (m_program_at n) (progP k)
  | k, 0, _, _, h, _ => by omega
  | 0, n + 1, d, hd, _, _ => fun q hq => by
    show d_program_at (m_program_at n) (.str a) (q : Int) d = _ ∧ _
    unfold d_program_at
    rw [if_pos (by rw [hd]; decide)]
    exact ⟨rfl, .none⟩
  | k + 1, n + 1, d, hd, hn, hk => fun q hq => by
    have hr := prog_eq ha k n (d + 1) (by omega) (by omega) (by omega)
    show d_program_at (m_program_at n) (.str a) (q : Int) d = ret (pr _ (blockP (progP k) _)) ∧ AtS _ _ (blockP (progP k) _)
    unfold d_program_at blockP
    rw [decide_eq_false (by omega), if_neg (by decide), show (q : Int) + 1 = ((q + 1 : Nat) : Int) by omega, eq_sl (Nat.le_add_right _ _), bnd_ret, show q + 1 - q = 1 by omega, show TL.tl (Str.ofString "-") = [45] by decide +kernel]
    by_cases h1 : ((TL.tl a).drop q).take 1 = [45]
    · rw [if_pos h1, decide_eq_true h1, if_pos rfl, List.drop_drop]
      have h2 := take_len h1 rfl
      rw [List.length_drop] at h2
      have l2 : q + 1 ≤ (TL.tl a).length := by rw [lz] at h2 ⊢; omega
      rw [pr_at l2]
      exact ⟨rfl, fun x r e => by cases e; exact ⟨q + 1, by omega, l2, rfl⟩⟩
    · rw [if_neg h1, decide_eq_false h1, if_neg (by decide)]
      exact loop_eq ha hr _ q [] hq (by rw [List.length_drop, lz]; omega) (by unfold Big at ha; simp only [List.length_nil]; omega)
end Q82

namespace Q82
open PySem PySem.Spec L2 PL
/-! ### words at places -/
def WO (ws : List Str) : Prop := ∀ w ∈ ws, okD (.str w) = true
theorem WO.take {ws : List Str} (h : WO ws) (m : Nat) : WO (ws.take m) := fun w hw => h w (List.mem_of_mem_take hw)
theorem WO.drop {ws : List Str} (h : WO ws) (m : Nat) : WO (ws.drop m) := fun w hw => h w (List.mem_of_mem_drop hw)
theorem WO.gd {ws : List Str} (h : WO ws) : Gd 1 (.lst (ws.map .str)) := Gd.lst (k := 0) fun x hx => by
  obtain ⟨w, hw, rfl⟩ := List.mem_map.mp hx
  exact Gd.str (h w hw)
theorem map_str_inj : ∀ {u v : List Str}, u.map D.str = v.map D.str → u = v
  | [], [], _ => rfl
  | [], _ :: _, h => nomatch h
  | _ :: _, [], h => nomatch h
  | a :: u, b :: v, h => by
    obtain ⟨h1, h2⟩ := List.cons.inj h
    rw [D.str.inj h1, map_str_inj h2]
theorem lst_iff {u v : List Str} : (D.lst (u.map .str) = D.lst (v.map .str)) ↔ u = v := ⟨fun h => map_str_inj (D.lst.inj h), fun h => by rw [h]⟩
open Classical in
theorem eq_ws {u v : List Str} (hu : WO u) (hv : WO v) : eqB (.lst (u.map .str)) (.lst (v.map .str)) = ret (decide (u = v)) := by
  rw [eqB_gd hu.gd hv.gd (by decide)]
  by_cases h : u = v
  · rw [decide_eq_true h, decide_eq_true (lst_iff.mpr h)]
  · rw [decide_eq_false h, decide_eq_false (fun z => h (lst_iff.mp z))]
open Classical in
theorem ne_ws {u v : List Str} (hu : WO u) (hv : WO v) : neB (.lst (u.map .str)) (.lst (v.map .str)) = ret (!decide (u = v)) := by
  rw [neB_gd hu.gd hv.gd (by decide)]
  by_cases h : u = v
  · rw [decide_eq_true h, decide_eq_true (lst_iff.mpr h)]
  · rw [decide_eq_false h, decide_eq_false (fun z => h (lst_iff.mp z))]
theorem slW {W : List Str} {i j : Nat} (h : i ≤ j) : slD (.lst (W.map .str)) (some (i : Int)) (some (j : Int)) = ret (.lst (((W.drop i).take (j - i)).map .str)) := by
  show PL.ret (D.lst (cutD (W.map .str) (some (i : Int)) (some (j : Int)))) = _
  refine congrArg (fun z => PL.ret (D.lst z)) ?_
  unfold cutD
  rw [HT.sIx_nat, HT.sIx_nat, List.length_map, List.map_take, List.map_drop]
  have hl : (W.map D.str).length = W.length := List.length_map _
  by_cases h1 : i ≤ W.length
  · rw [Nat.min_eq_left h1]
    by_cases h2 : j ≤ W.length
    · rw [Nat.min_eq_left h2]
    · rw [Nat.min_eq_right (by omega), List.take_of_length_le (by rw [List.length_drop]; omega), List.take_of_length_le (by rw [List.length_drop]; omega)]
  · rw [List.drop_of_length_le (by omega), List.drop_of_length_le (by omega), List.take_nil, List.take_nil]
theorem wo1 (w : Str) (h : okD (.str w) = true) : WO [w] := fun v hv => by rw [List.mem_singleton.mp hv]; exact h
theorem eq_slW {W : List Str} (hW : WO W) {i j : Nat} (h : i ≤ j) {v : List Str} (hv : WO v) : (bnd (slD (.lst (W.map .str)) (some (i : Int)) (some (j : Int))) fun s => eqB s (.lst (v.map .str))) = ret (decide ((W.drop i).take (j - i) = v)) := by
  rw [slW h, bnd_ret, eq_ws ((hW.drop i).take _) hv]
theorem ne_slW {W : List Str} (hW : WO W) {i j : Nat} (h : i ≤ j) {v : List Str} (hv : WO v) : (bnd (slD (.lst (W.map .str)) (some (i : Int)) (some (j : Int))) fun s => neB s (.lst (v.map .str))) = ret (!decide ((W.drop i).take (j - i) = v)) := by
  rw [slW h, bnd_ret, ne_ws ((hW.drop i).take _) hv]
open Classical in
theorem in_shut {u : List Str} (hu : WO u) : (bnd (inDpT true (.lst (u.map .str)) (.tup [(.lst [(.str wShut)]), (.lst [(.str wShutS)])])) fun k3 => blB k3) = ret (!(decide (u = [wShut]) || decide (u = [wShutS]))) := by
  show bnd (grd _ (PL.ret (D.bl (!((pys [(.lst [(.str wShut)]), (.lst [(.str wShutS)])]).any fun z => PyData.eqv z (py (.lst (u.map .str)))))))) _ = _
  have o1 : WO [wShut] := wo1 _ (by decide +kernel)
  have o2 : WO [wShutS] := wo1 _ (by decide +kernel)
  rw [grd_pos ⟨hu.gd.ok (by decide), by decide +kernel, by decide +kernel⟩, bnd_ret, blB_bl]
  refine congrArg (fun b => PL.ret (!b)) ?_
  have e : ∀ v, WO v → PyData.eqv (py (.lst (v.map .str))) (py (.lst (u.map .str))) = decide (u = v) := fun v hv => by
    rw [hv.gd.pl.eqv hu.gd.pl]
    by_cases h : u = v
    · rw [decide_eq_true h, decide_eq_true (lst_iff.mpr h.symm)]
    · rw [decide_eq_false h, decide_eq_false (fun z => h (lst_iff.mp z).symm)]
  show (PyData.eqv (py (.lst ([wShut].map .str))) (py (.lst (u.map .str))) || (PyData.eqv (py (.lst ([wShutS].map .str))) (py (.lst (u.map .str))) || false)) = _
  rw [e _ o1, e _ o2, Bool.or_false]
/-! ### the law's reader -/
def prL (n : Nat) : Option (D × List Str) → D
  | none => .non
  | some (x, r) => .tup [x, .int ((n - r.length : Nat) : Int)]
def AtL (W : List Str) (p : Nat) (o : Option (D × List Str)) : Prop := ∀ x r, o = some (x, r) → ∃ q, p ≤ q ∧ q ≤ W.length ∧ r = W.drop q
theorem AtL.none {W : List Str} {p : Nat} : AtL W p none := fun _ _ h => nomatch h
theorem prL_at {W : List Str} {q : Nat} (h : q ≤ W.length) (x : D) : prL W.length (some (x, W.drop q)) = .tup [x, .int (q : Int)] := by
  show D.tup [x, .int ((W.length - (W.drop q).length : Nat) : Int)] = _
  rw [List.length_drop, show W.length - (W.length - q) = q by omega]
def LevL (W : List Str) (d : Int) (recF : List SV → PL.W D) (rc : PL') : Prop := ∀ q, q ≤ W.length → recF [.d (.lst (W.map .str)), .d (.int (q : Int)), .d (.int d)] = ret (prL W.length (rc (W.drop q))) ∧ AtL W q (rc (W.drop q))
theorem takeW_len {s p : List Str} {m : Nat} (h : s.take m = p) (hp : p.length = m) : m ≤ s.length := by
  have := congrArg List.length h
  rw [List.length_take] at this
  omega
theorem try_eq {W : List Str} (hW : WO W) {d : Int} {recF : List SV → PL.W D} {rc : PL'} (hr : LevL W (d + 1) recF rc) {p : Nat} (hp : p ≤ W.length) :
    d_l_try_in recF (.lst (W.map .str)) (p : Int) d = ret (prL W.length (tryL rc (W.drop (p + 1)))) ∧ AtL W p (tryL rc (W.drop (p + 1))) := by
  unfold d_l_try_in tryL
  have e1 := eq_slW hW (i := p + 1) (j := p + 2) (by omega) (wo1 wOpen (by decide +kernel))
  rw [show p + 2 - (p + 1) = 1 by omega] at e1
  rw [show (p : Int) + 1 = ((p + 1 : Nat) : Int) by omega, show (p : Int) + 2 = ((p + 2 : Nat) : Int) by omega]
  have e1' : (bnd (slD (.lst (W.map .str)) (some ((p + 1 : Nat) : Int)) (some ((p + 2 : Nat) : Int))) fun s => bnd (eqB s (.lst [(.str (Str.ofString "{"))])) fun k => if k = true then cl (recF [.d (.lst (W.map .str)), .d (.int ((p + 2 : Nat) : Int)), .d (.int (d + 1))]) else ret .non) = bnd (ret (decide ((W.drop (p + 1)).take 1 = [wOpen]))) fun k => if k = true then cl (recF [.d (.lst (W.map .str)), .d (.int ((p + 2 : Nat) : Int)), .d (.int (d + 1))]) else ret .non := by
    rw [← e1, bnd_bnd]
    rfl
  rw [e1', bnd_ret]
  by_cases ho : (W.drop (p + 1)).take 1 = [wOpen]
  · rw [if_pos ho, decide_eq_true ho, if_pos rfl, List.drop_drop]
    have h6 := takeW_len ho rfl
    rw [List.length_drop] at h6
    obtain ⟨r1, r2⟩ := hr (p + 1 + 1) (by omega)
    rw [show p + 2 = p + 1 + 1 by omega, r1, cl_ret, bnd_ret]
    cases hc : rc (W.drop (p + 1 + 1)) with
    | none => exact ⟨rfl, .none⟩
    | some z =>
      obtain ⟨x, r⟩ := z
      obtain ⟨q, q1, q2, rfl⟩ := r2 x r hc
      rw [prL_at q2]
      simp only [iT0, iT1, bnd_ret, intI_i]
      have e2 := ne_slW hW (i := q) (j := q + 3) (by omega) (v := [wShut, wElse, wOpen]) (fun v hv => by
        simp only [List.mem_cons, List.not_mem_nil, or_false] at hv
        rcases hv with rfl | rfl | rfl <;> decide +kernel)
      rw [show q + 3 - q = 3 by omega] at e2
      rw [show isNone (.tup [x, .int (q : Int)]) = false from rfl, orB0, show (q : Int) + 3 = ((q + 3 : Nat) : Int) by omega]
      rw [show (bnd (slD (.lst (W.map .str)) (some (q : Int)) (some ((q + 3 : Nat) : Int))) fun s1 => neB s1 (.lst [(.str (Str.ofString "}")), (.str (Str.ofString "else")), (.str (Str.ofString "{"))])) = _ from e2, bnd_ret]
      by_cases he : (W.drop q).take 3 = [wShut, wElse, wOpen]
      · rw [if_pos he, decide_eq_true he, Bool.not_true, if_neg (by decide)]
        have h10 := takeW_len he rfl
        rw [List.length_drop] at h10
        obtain ⟨r3, r4⟩ := hr (q + 3) (by omega)
        rw [r3, cl_ret, bnd_ret, List.drop_drop]
        cases ho2 : rc (W.drop (q + 3)) with
        | none => exact ⟨rfl, .none⟩
        | some z =>
          obtain ⟨y, r⟩ := z
          obtain ⟨m, m1, m2, rfl⟩ := r4 y r ho2
          rw [prL_at m2]
          simp only [iT0, iT1, bnd_ret, intI_i]
          rw [if_neg (c := isNone (.tup [y, .int (m : Int)]) = true) Bool.false_ne_true, prL_at m2]
          exact ⟨rfl, fun x r e => by cases e; exact ⟨m, by omega, m2, rfl⟩⟩
      · rw [if_neg he, decide_eq_false he, Bool.not_false, if_pos rfl]
        exact ⟨rfl, .none⟩
  · rw [if_neg ho, decide_eq_false ho, if_neg (by decide), bnd_ret]
    exact ⟨rfl, .none⟩
/-! ### the end of a word -/
theorem last_b (w : Str) : (cutS w (some (-1)) none == Str.ofString ";") = ends w := by
  have hc : (cutS w (some (-1)) none).cps.toList = (TL.tl w).drop (w.length - 1) := by
    unfold cutS
    show ((TL.tl w).drop (HT.sIx w.length 0 (some (-1)))).take (HT.sIx w.length w.length none - HT.sIx w.length 0 (some (-1))) = _
    rw [HT.sIx_none]
    have e : HT.sIx w.length 0 (some (-1)) = w.length - 1 := by
      show (if (-1 : Int) < 0 then ((-1 : Int) + (w.length : Int)).toNat else min (-1 : Int).toNat w.length) = _
      rw [if_pos (by decide)]
      omega
    rw [e, List.take_of_length_le (by rw [List.length_drop, lz]; omega)]
  have hm : cutS w (some (-1)) none = mkS ((TL.tl w).drop (w.length - 1)) := str_ext hc
  rw [hm, eqmk, show TL.tl (Str.ofString ";") = [59] by decide +kernel]
  unfold ends
  cases hw : TL.tl w with
  | nil => rw [List.drop_nil]; rfl
  | cons c r =>
    have hne : c :: r ≠ [] := fun z => nomatch z
    have hl : (c :: r).length = w.length := by rw [← hw, lz]
    have := List.dropLast_concat_getLast hne
    have e : (c :: r).drop (w.length - 1) = [(c :: r).getLast hne] := by
      have h2 := List.drop_left (l₁ := (c :: r).dropLast) (l₂ := [(c :: r).getLast hne])
      rw [this, List.length_dropLast, hl] at h2
      exact h2
    rw [e, List.getLast?_eq_some_getLast hne]
    by_cases h : (c :: r).getLast hne = 59
    · rw [h]; rfl
    · rw [decide_eq_false (fun z => h (List.cons.inj z).1)]
      cases q : (some ((c :: r).getLast hne) == some 59) with
      | false => rfl
      | true => exact absurd (Option.some.inj (eq_of_beq q)) h
theorem last_sl (w : Str) : (bnd (slD (.str w) (some (-1)) none) fun s5 => eqB s5 (.str (Str.ofString ";"))) = ret (ends w) := by
  rw [slD_str, bnd_ret, eqB_str, last_b]
theorem last_ne (w : Str) : (bnd (slD (.str w) (some (-1)) none) fun s5 => neB s5 (.str (Str.ofString ";"))) = ret (!ends w) := by
  rw [slD_str, bnd_ret, neB_str, last_b]
theorem strip_sl (w : Str) : slD (.str w) none (some ((w.length : Int) - (if ends w = true then 1 else 0))) = ret (.str (strip w)) := by
  rw [slD_str]
  refine congrArg (fun z => PL.ret (D.str z)) (str_ext ?_)
  unfold strip
  cases h : ends w with
  | true =>
    rw [if_pos rfl, if_pos rfl]
    have hne : TL.tl w ≠ [] := fun z => by
      unfold ends at h
      rw [z] at h
      cases h
    have hl := lz w
    have h1 : 1 ≤ w.length := by
      cases hw : TL.tl w with
      | nil => exact absurd hw hne
      | cons c r => rw [hw, List.length_cons] at hl; omega
    rw [show (w.length : Int) - 1 = ((w.length - 1 : Nat) : Int) by omega, cutS_take]
    show (TL.tl w).take (w.length - 1) = (TL.tl w).dropLast
    rw [List.dropLast_eq_take, hl]
  | false =>
    rw [if_neg (by decide), if_neg (by decide), show (w.length : Int) - 0 = ((w.length : Nat) : Int) by omega, cutS_take, List.take_of_length_le (by rw [len_list]; exact Nat.le_refl _)]
theorem init_sl (ws : List Str) : slD (.lst (ws.map .str)) none (some (-1)) = ret (.lst (ws.dropLast.map .str)) := by
  show PL.ret (D.lst (cutD (ws.map .str) none (some (-1)))) = _
  refine congrArg (fun z => PL.ret (D.lst z)) ?_
  unfold cutD
  rw [HT.sIx_none, List.drop_zero, List.length_map, Nat.sub_zero]
  have e : HT.sIx ws.length ws.length (some (-1)) = ws.length - 1 := by
    show (if (-1 : Int) < 0 then ((-1 : Int) + (ws.length : Int)).toNat else min (-1 : Int).toNat ws.length) = _
    rw [if_pos (by decide)]
    omega
  rw [e, ← List.map_take, List.dropLast_eq_take]
theorem ix_lastW {ws : List Str} (h : ws ≠ []) : ixD (.lst (ws.map .str)) (.int (-1)) = ret (.str (ws.getLast h)) := by
  refine ix_l ?_
  have := atI_last (ws.dropLast.map D.str) (D.str (ws.getLast h))
  rw [show ws.dropLast.map D.str ++ [D.str (ws.getLast h)] = (ws.dropLast ++ [ws.getLast h]).map D.str by simp, List.dropLast_concat_getLast] at this
  exact this
theorem ix_W {W : List Str} {p : Nat} {w : Str} {r : List Str} (h : W.drop p = w :: r) : ixD (.lst (W.map .str)) (.int (p : Int)) = ret (.str w) := by
  refine ix_l (atI_nat ?_)
  have := congrArg List.head? h
  rw [List.head?_drop] at this
  rw [List.getElem?_map, this]
  rfl
end Q82

namespace Q82
open PySem PySem.Spec L2 PL
/-! ### the law's block -/
def lfin (j1 : Int × List D × D) : W (Step (Int × List D) D) :=
    bnd (bnd (slD j1.2.2 (some (-1)) none) fun s7 => neB s7 (.str (Str.ofString ";"))) fun kk => if kk = true then
    ret (.out (.tup [(.tup j1.2.1), (.int j1.1)]))
    else
    ret (.go (j1.1, j1.2.1))
def partA (recF : List SV → W D) (words : D) (depth : Int) (j : Int × List D) : W (Step (Int × List D × D) (Step (Int × List D) D)) :=
    bnd (cl (mm_l_try_in recF [.d words, .d (.int j.1), .d (.int depth)])) fun one =>
    bnd (orB (ret (isNone one)) (bnd (ixD one (.int 1)) fun y2 => bnd (intI y2) fun i => bnd (ixD one (.int 1)) fun y3 => bnd (intI y3) fun i1 => bnd (slD words (some i) (some (i1 + 1))) fun s1 => bnd (inDpT true s1 (.tup [(.lst [(.str (Str.ofString "}"))]), (.lst [(.str (Str.ofString "};"))])])) fun k3 => blB k3)) fun kk => if kk = true then
    ret (.out (.out .non))
    else
    bnd (ixD one (.int 0)) fun app => roomL j.2 (
    bnd (bnd (ixD one (.int 1)) fun y5 => bnd (intI y5) fun i2 => ixD words (.int i2)) fun last =>
    bnd (bnd (ixD one (.int 1)) fun y7 => bnd (intI y7) fun i3 => ret (i3 + 1)) fun atV1 =>
    ret (.go (atV1, (j.2 ++ [app]), last)))
def partB (words : D) (j : Int × List D) : W (Step (Int × List D × D) (Step (Int × List D) D)) :=
    bnd (bnd (slD words (some j.1) (some (j.1 + 1))) fun s2 => bnd (eqB s2 (.lst [(.str (Str.ofString "set"))])) fun k6 => if k6 = true then ret (.int 3) else ret (.int 2)) fun many =>
    bnd (bnd (intI many) fun i4 => slD words (some j.1) (some (j.1 + i4))) fun row =>
    bnd (bnd (neB row (.lst [])) fun k7 => if k7 = true then ixD row (.int (-1)) else ret (.str (Str.ofString ""))) fun last1 =>
    bnd (bnd (slD row none (some (-1))) fun s4 => bnd (lenI last1) fun n1 => bnd (slD last1 (some (-1)) none) fun s5 => bnd (eqB s5 (.str (Str.ofString ";"))) fun k8 => bnd (slD last1 none (some (n1 - (if k8 then 1 else 0)))) fun s6 => bnd (addD s4 (.lst [s6])) fun c => cl (d_l_command_in c)) fun one1 =>
    if (isNone one1) = true then
    ret (.out (.out .non))
    else
    roomL j.2 (
    bnd (bnd (intI many) fun i5 => ret (j.1 + i5)) fun atV2 =>
    ret (.go (atV2, (j.2 ++ [one1]), last1)))
def lbody (recF : List SV → W D) (words : D) (depth : Int) (j : Int × List D) : W (Step (Int × List D) D) :=
    bnd (bnd (slD words (some j.1) (some (j.1 + 1))) fun s => eqB s (.lst [(.str (Str.ofString "try"))])) fun kk => bnd (if kk = true then partA recF words depth j else partB words j) (joinK lfin)
theorem block_in_unf (recF : List SV → W D) (words : D) (atV : Int) (depth : Int) : d_l_block_in recF words atV depth =
    bnd (orB (ret (decide (3 < depth))) (bnd (lenI words) fun n => ret (decide (n ≤ atV)))) fun kk => if kk = true then
    ret .non
    else
    bnd (bnd (ixD words (.int atV)) fun y => eqB y (.str (Str.ofString "-"))) fun kk => if kk = true then
    ret (.tup [(.tup []), (.int (atV + 1))])
    else
    whileE (fun j => ret true) (lbody recF words depth) (fun j2 => ret .non) (atV, []) := by
  unfold d_l_block_in
  rfl
theorem lfin_eq (q : Int) (acc : List D) (w : Str) : lfin (q, acc, .str w) = ret (if ends w = true then .go (q, acc) else .out (.tup [.tup acc, .int q])) := by
  unfold lfin
  rw [last_ne, bnd_ret]
  cases ends w <;> rfl
def stepL (n : Nat) (acc : List D) : Option (D × Str × List Str) → Step (Int × List D) D
  | none => .out .non
  | some (x, w, t) => if ends w = true then .go (((n - t.length : Nat) : Int), acc ++ [x]) else .out (.tup [.tup (acc ++ [x]), .int ((n - t.length : Nat) : Int)])
def AtI (W : List Str) (p : Nat) (o : Option (D × Str × List Str)) : Prop := ∀ x w t, o = some (x, w, t) → ∃ q, p < q ∧ q ≤ W.length ∧ t = W.drop q
theorem go_fin {m : W (Step (Int × List D × D) (Step (Int × List D) D))} {q : Nat} {acc : List D} {x : D} {w : Str} {n : Nat} {t : List Str} (h : m = ret (.go ((q : Int), acc ++ [x], .str w))) (hq : n - t.length = q) : bnd m (joinK lfin) = ret (stepL n acc (some (x, w, t))) := by
  rw [h, bnd_ret]
  show lfin ((q : Int), acc ++ [x], .str w) = _
  rw [lfin_eq]
  show _ = PL.ret (if ends w = true then Step.go (((n - t.length : Nat) : Int), acc ++ [x]) else Step.out (D.tup [.tup (acc ++ [x]), .int ((n - t.length : Nat) : Int)]))
  rw [hq]
theorem many_eq {W : List Str} (hW : WO W) (p : Nat) : (bnd (slD (.lst (W.map .str)) (some (p : Int)) (some ((p : Int) + 1))) fun s2 => bnd (eqB s2 (.lst [(.str (Str.ofString "set"))])) fun k6 => if k6 = true then ret (.int 3) else ret (.int 2) : PL.W D) = ret (.int ((manyL (W.drop p) : Nat) : Int)) := by
  have e1 := eq_slW hW (i := p) (j := p + 1) (by omega) (wo1 wSetS (by decide +kernel))
  rw [show p + 1 - p = 1 by omega] at e1
  rw [← bnd_bnd, show (p : Int) + 1 = ((p + 1 : Nat) : Int) by omega]
  rw [show (bnd (slD (.lst (W.map .str)) (some (p : Int)) (some ((p + 1 : Nat) : Int))) fun s2 => eqB s2 (.lst [(.str (Str.ofString "set"))])) = _ from e1, bnd_ret]
  unfold manyL
  cases W.drop p with
  | nil =>
    rw [decide_eq_false (fun z => nomatch z), if_neg (by decide), if_neg (fun z => nomatch z)]
    rfl
  | cons w r =>
    show (if decide ([w] = [wSetS]) = true then _ else _) = PL.ret (D.int ((if some w = some wSetS then 3 else 2 : Nat) : Int))
    by_cases h : w = wSetS
    · rw [if_pos (congrArg some h), decide_eq_true (by rw [h]), if_pos rfl]
      rfl
    · rw [if_neg (fun z => h (Option.some.inj z)), decide_eq_false (fun z => h (List.cons.inj z).1), if_neg (by decide)]
      rfl
theorem partB_eq {W : List Str} (hW : WO W) (hz : ∀ w ∈ W, w.length ≤ Big) {p : Nat} {acc : List D} (ha : acc.length < 950000) :
    partB (.lst (W.map .str)) ((p : Int), acc) = if isNone (cIn (rowC (W.drop p))) = true then ret (.out (.out .non)) else ret (.go (((p + manyL (W.drop p) : Nat) : Int), acc ++ [cIn (rowC (W.drop p))], .str (lastL (W.drop p)))) := by
  unfold partB
  show bnd (bnd (slD _ (some (p : Int)) (some ((p : Int) + 1))) _) _ = _
  rw [many_eq hW, bnd_ret, intI_i, bnd_ret]
  have hzs : ∀ w ∈ W.drop p, w.length ≤ Big := fun w hw => hz w (List.mem_of_mem_drop hw)
  rw [show (p : Int) + ((manyL (W.drop p) : Nat) : Int) = ((p + manyL (W.drop p) : Nat) : Int) by omega, slW (by omega), bnd_ret, show p + manyL (W.drop p) - p = manyL (W.drop p) by omega]
  generalize hws : W.drop p = ws at hzs
  have el : (bnd (neB (.lst ((ws.take (manyL ws)).map .str)) (.lst [])) fun k7 => if k7 = true then ixD (.lst ((ws.take (manyL ws)).map .str)) (.int (-1)) else ret (.str (Str.ofString ""))) = ret (.str (lastL ws)) := by
    rw [neB_nil, bnd_ret]
    unfold lastL
    cases hr : ws.take (manyL ws) with
    | nil => rfl
    | cons a r =>
      rw [if_pos (show (!(List.map D.str (a :: r)).isEmpty) = true from rfl), ix_lastW (show a :: r ≠ [] from List.cons_ne_nil a r), List.getLast?_eq_some_getLast (show a :: r ≠ [] from List.cons_ne_nil a r)]
      rfl
  rw [el, bnd_ret, init_sl, bnd_ret]
  show bnd (bnd (PL.ret ((lastL ws).length : Int)) _) _ = _
  rw [bnd_ret, ← bnd_bnd (slD (.str (lastL ws)) (some (-1)) none), last_sl, bnd_ret, strip_sl, bnd_ret]
  have eadd : addD (.lst ((ws.take (manyL ws)).dropLast.map .str)) (.lst [.str (strip (lastL ws))]) = ret (.lst ((rowC ws).map .str)) := by
    have hm : manyL ws ≤ 3 := by unfold manyL; split <;> omega
    unfold rowC
    rw [List.map_append]
    exact grd_pos (by rw [sizeLine_eq, List.length_map, List.length_dropLast, List.length_take, List.length_cons, List.length_nil]; omega) _
  have hlast : (lastL ws).length ≤ Big := by
    unfold lastL
    cases hg : (ws.take (manyL ws)).getLast? with
    | none => exact Nat.le_trans (Nat.le_of_eq (show (Str.ofString "").length = 0 by decide +kernel)) (Nat.zero_le _)
    | some w =>
      have := List.mem_of_getLast? hg
      exact hzs w (List.mem_of_mem_take this)
  have hstrip : (strip (lastL ws)).length ≤ Big := by
    refine Nat.le_trans ?_ hlast
    unfold strip
    split
    · rw [TL.len_tl, tl_mkS, List.length_dropLast, lz]
      omega
    · exact Nat.le_refl _
  have hrow : ∀ w ∈ rowC ws, w.length ≤ Big := fun w hw => by
    unfold rowC at hw
    rcases List.mem_append.mp hw with hw | hw
    · exact hzs w (List.mem_of_mem_take (List.dropLast_subset _ hw))
    · rw [List.mem_singleton.mp hw]; exact hstrip
  rw [eadd, bnd_ret, l_command_in_eq hrow, cl_ret, bnd_ret]
  cases isNone (cIn (rowC ws)) with
  | true => rfl
  | false =>
    rw [if_neg (by decide), if_neg (by decide), room_pos (show acc.length < 1000000 by omega)]
    show bnd (bnd (PL.ret ((manyL ws : Nat) : Int)) _) _ = _
    rw [bnd_ret, bnd_ret]
    rw [show (p : Int) + ((manyL ws : Nat) : Int) = ((p + manyL ws : Nat) : Int) by omega]
theorem lbody_eq {W : List Str} (hW : WO W) (hz : ∀ w ∈ W, w.length ≤ Big) {d : Int} {recF : List SV → PL.W D} {rc : PL'} (hr : LevL W (d + 1) recF rc) {p : Nat} (hp : p ≤ W.length) {acc : List D} (ha : acc.length < 950000) :
    lbody recF (.lst (W.map .str)) d ((p : Int), acc) = ret (stepL W.length acc (itemL rc (W.drop p))) ∧ AtI W p (itemL rc (W.drop p)) := by
  unfold lbody itemL
  have e1 := eq_slW hW (i := p) (j := p + 1) (by omega) (wo1 wTry (by decide +kernel))
  rw [show p + 1 - p = 1 by omega] at e1
  show bnd (bnd (slD (.lst (W.map .str)) (some (p : Int)) (some ((p : Int) + 1))) fun s => eqB s (.lst [(.str (Str.ofString "try"))])) _ = _ ∧ _
  rw [show (p : Int) + 1 = ((p + 1 : Nat) : Int) by omega, show (bnd (slD (.lst (W.map .str)) (some (p : Int)) (some ((p + 1 : Nat) : Int))) fun s => eqB s (.lst [(.str (Str.ofString "try"))])) = _ from e1, bnd_ret]
  by_cases ht : (W.drop p).take 1 = [wTry]
  · rw [if_pos ht, decide_eq_true ht, if_pos rfl, List.drop_drop]
    obtain ⟨r1, r2⟩ := try_eq hW hr hp
    unfold partA
    show bnd (bnd (cl (d_l_try_in recF (.lst (W.map .str)) (p : Int) d)) _) _ = _ ∧ _
    rw [r1, cl_ret, bnd_ret]
    cases ho : tryL rc (W.drop (p + 1)) with
    | none => exact ⟨rfl, fun _ _ _ h => nomatch h⟩
    | some z =>
      obtain ⟨x, r⟩ := z
      obtain ⟨q, q1, q2, rfl⟩ := r2 x r ho
      rw [prL_at q2]
      simp only [iT0, iT1, bnd_ret, intI_i]
      rw [show isNone (.tup [x, .int (q : Int)]) = false from rfl, orB0, show (q : Int) + 1 = ((q + 1 : Nat) : Int) by omega, slW (by omega), bnd_ret, show q + 1 - q = 1 by omega]
      rw [show (bnd (inDpT true (.lst (((W.drop q).take 1).map .str)) (.tup [(.lst [(.str (Str.ofString "}"))]), (.lst [(.str (Str.ofString "};"))])])) fun k3 => blB k3) = _ from in_shut ((hW.drop q).take 1), bnd_ret]
      cases hd : W.drop q with
      | nil => exact ⟨rfl, fun _ _ _ h => nomatch h⟩
      | cons w t =>
        have hl : q < W.length := by
          have := congrArg List.length hd
          rw [List.length_drop, List.length_cons] at this
          omega
        have ht2 : W.drop (q + 1) = t := by rw [← List.drop_drop, hd]; rfl
        have hql : W.length - t.length = q + 1 := by rw [← ht2, List.length_drop]; omega
        show bnd (if (!(decide ([w] = [wShut]) || decide ([w] = [wShutS]))) = true then _ else _) _ = PL.ret (stepL _ _ (if w = wShut ∨ w = wShutS then some (x, w, t) else none)) ∧ AtI _ _ (if w = wShut ∨ w = wShutS then some (x, w, t) else none)
        have hb : (decide ([w] = [wShut]) || decide ([w] = [wShutS])) = decide (w = wShut ∨ w = wShutS) := by
          by_cases h1 : w = wShut
          · rw [decide_eq_true (by rw [h1]), decide_eq_true (show w = wShut ∨ w = wShutS from .inl h1)]; rfl
          · rw [decide_eq_false (fun z => h1 (List.cons.inj z).1)]
            by_cases h2 : w = wShutS
            · rw [decide_eq_true (by rw [h2]), decide_eq_true (show w = wShut ∨ w = wShutS from .inr h2)]; rfl
            · rw [decide_eq_false (fun z => h2 (List.cons.inj z).1), decide_eq_false (show ¬(w = wShut ∨ w = wShutS) from fun z => z.elim h1 h2)]; rfl
        rw [hb]
        by_cases hw : w = wShut ∨ w = wShutS
        · rw [if_pos hw, decide_eq_true hw, Bool.not_true, if_neg (by decide), room_pos (show acc.length < 1000000 by omega)]
          refine ⟨go_fin (q := q + 1) ?_ hql, fun x' w' t' e => by cases e; exact ⟨q + 1, by omega, by omega, ht2.symm⟩⟩
          rw [ix_W hd, bnd_ret]
        · rw [if_neg hw, decide_eq_false hw, Bool.not_false, if_pos rfl]
          exact ⟨rfl, fun _ _ _ h => nomatch h⟩
  · rw [if_neg ht, decide_eq_false ht, if_neg (by decide), partB_eq hW hz ha]
    cases hn : isNone (cIn (rowC (W.drop p))) with
    | true => exact ⟨rfl, fun _ _ _ h => nomatch h⟩
    | false =>
      rw [if_neg (by decide), if_neg (by decide)]
      obtain ⟨pre, v, w, next, hv, g1, g2, g3⟩ := cmd_law hn
      obtain ⟨m1, m2, m3, m4⟩ := row_of hv g2
      have hl : manyL (W.drop p) ≤ (W.drop p).length := by
        have := congrArg List.length g2
        rw [List.length_append, List.length_cons] at this
        omega
      rw [List.length_drop] at hl
      refine ⟨go_fin (q := p + manyL (W.drop p)) rfl ?_, fun x' w' t' e => by cases e; exact ⟨p + manyL (W.drop p), by omega, by omega, List.drop_drop⟩⟩
      rw [List.drop_drop, List.length_drop]
      omega
theorem loopL_none {rc : PL'} {f : Nat} {s : List Str} {acc : List D} (h : itemL rc s = none) : loopL rc (f + 1) s acc = none := by
  unfold loopL
  rw [h]
theorem loopL_some {rc : PL'} {f : Nat} {s : List Str} {acc : List D} {x : D} {w : Str} {t : List Str} (h : itemL rc s = some (x, w, t)) : loopL rc (f + 1) s acc = if ends w = true then loopL rc f t (acc ++ [x]) else some (.tup (acc ++ [x]), t) := by
  conv => lhs; unfold loopL
  rw [h]
theorem lloop_eq {W : List Str} (hW : WO W) (hz : ∀ w ∈ W, w.length ≤ Big) {d : Int} {recF : List SV → PL.W D} {rc : PL'} (hr : LevL W (d + 1) recF rc) : ∀ (f p : Nat) (acc : List D), p ≤ W.length → W.length - p < f → acc.length + (W.length - p) ≤ 940000 →
    whileE (fun j => ret true) (lbody recF (.lst (W.map .str)) d) (fun j2 => ret .non) ((p : Int), acc) = ret (prL W.length (loopL rc f (W.drop p) acc)) ∧ AtL W p (loopL rc f (W.drop p) acc)
  | 0, p, acc, _, h, _ => by omega
  | f + 1, p, acc, hp, hf, hl => by
    obtain ⟨e1, e2⟩ := lbody_eq hW hz hr hp (acc := acc) (by omega)
    cases ho : itemL rc (W.drop p) with
    | none =>
      rw [ho] at e1
      rw [loopL_none ho]
      exact ⟨Eq.trans (while_step rfl e1) rfl, .none⟩
    | some z =>
      obtain ⟨x, w, t⟩ := z
      obtain ⟨q, q1, q2, rfl⟩ := e2 x w t ho
      rw [ho] at e1
      have hq : W.length - (W.drop q).length = q := by rw [List.length_drop]; omega
      have e1 : lbody recF (.lst (W.map .str)) d ((p : Int), acc) = ret (if ends w = true then .go (((W.length - (W.drop q).length : Nat) : Int), acc ++ [x]) else .out (.tup [.tup (acc ++ [x]), .int ((W.length - (W.drop q).length : Nat) : Int)])) := e1
      rw [hq] at e1
      rw [loopL_some ho]
      cases hw : ends w with
      | true =>
        rw [hw, if_pos rfl] at e1
        rw [if_pos rfl]
        obtain ⟨i1, i2⟩ := lloop_eq hW hz hr f q (acc ++ [x]) q2 (by omega) (by rw [List.length_append]; simp only [List.length_cons, List.length_nil]; omega)
        refine ⟨Eq.trans (while_step rfl e1) i1, fun x r e => ?_⟩
        obtain ⟨m, m1, m2, m3⟩ := i2 x r e
        exact ⟨m, by omega, m2, m3⟩
      | false =>
        rw [hw, if_neg (by decide)] at e1
        rw [if_neg (by decide), prL_at q2]
        exact ⟨Eq.trans (while_step rfl e1) rfl, fun x r e => by cases e; exact ⟨q, by omega, q2, rfl⟩⟩
theorem block_eq {W : List Str} (hW : WO W) (hz : ∀ w ∈ W, w.length ≤ Big) (hc : W.length ≤ 930000) : ∀ (k n : Nat) (d : Int), d = 4 - k → k < n → k ≤ 4 → LevL W d (m_l_block_in n) (progL k)
  | k, 0, _, _, h, _ => by omega
  | 0, n + 1, d, hd, _, _ => fun q hq => by
    show d_l_block_in (m_l_block_in n) (.lst (W.map .str)) (q : Int) d = _ ∧ _
    rw [block_in_unf, decide_eq_true (by omega), orB1, bnd_ret, if_pos rfl]
    exact ⟨rfl, .none⟩
  | k + 1, n + 1, d, hd, hn, hk => fun q hq => by
    have hr := block_eq hW hz hc k n (d + 1) (by omega) (by omega) (by omega)
    show d_l_block_in (m_l_block_in n) (.lst (W.map .str)) (q : Int) d = ret (prL _ (blockL (progL k) _)) ∧ AtL _ _ (blockL (progL k) _)
    rw [block_in_unf, decide_eq_false (by omega), orB0]
    show bnd (bnd (PL.ret (((W.map D.str).length : Nat) : Int)) _) _ = _ ∧ _
    rw [bnd_ret, List.length_map, bnd_ret]
    cases hd2 : W.drop q with
    | nil =>
      have := congrArg List.length hd2
      rw [List.length_drop, List.length_nil] at this
      rw [decide_eq_true (by omega), if_pos rfl]
      exact ⟨rfl, .none⟩
    | cons w t =>
      have hl := congrArg List.length hd2
      rw [List.length_drop, List.length_cons] at hl
      rw [decide_eq_false (by omega), if_neg (by decide), ix_W hd2, bnd_ret, eqB_str, bnd_ret]
      unfold blockL
      show (if (w == wDash) = true then _ else _) = PL.ret (prL _ (if w = wDash then some (.tup [], t) else loopL _ (t.length + 2) (w :: t) [])) ∧ AtL _ _ (if w = wDash then some (.tup [], t) else loopL _ (t.length + 2) (w :: t) [])
      by_cases hw : w = wDash
      · have ht2 : W.drop (q + 1) = t := by rw [← List.drop_drop, hd2]; rfl
        rw [if_pos hw, if_pos (by rw [hw]; exact beq_self_eq_true _), ← ht2, prL_at (by omega)]
        exact ⟨rfl, fun x r e => by cases e; exact ⟨q + 1, by omega, by omega, rfl⟩⟩
      · rw [if_neg hw, if_neg (fun z => hw (eq_of_beq z)), ← hd2]
        exact lloop_eq hW hz hr _ q [] hq (by omega) (by simp only [List.length_nil]; omega)
end Q82

namespace Q82
open PySem PySem.Spec L2 PL
def trW : Str := Str.ofString "try"
def tryP : D → Option (D × D)
  | .tup [.str a, x, y] => if a == trW then some (x, y) else none
  | _ => none
theorem is_try_eq (x : D) : d_is_try x = ret (.bl (tryP x).isSome) := by
  unfold d_is_try
  cases x with
  | tup xs =>
    rcases xs with _ | ⟨a, _ | ⟨w, _ | ⟨x, _ | ⟨y, r⟩⟩⟩⟩
    · rfl
    · cases a <;> rfl
    · cases a <;> rfl
    · cases a with
      | str a =>
        simp only [isT, lenI_tup, ix0, bnd_ret, eqB_str, andD_t, show decide (((([.str a, w, x] : List D).length : Nat) : Int) = 3) = true from rfl]
        show ret (D.bl (a == trW)) = ret (.bl (Option.isSome (if a == trW then some (w, x) else none)))
        cases a == trW <;> rfl
      | _ => rfl
    · simp only [isT, lenI_tup, bnd_ret, andD_t]
      rw [decide_eq_false (by simp only [List.length_cons]; omega), andD_f]
      cases a <;> rfl
  | _ => rfl
/-! ### what both count -/
def seqI : D → Option (List D)
  | .lst xs => some xs
  | .tup xs => some xs
  | _ => none
def cnI (rec : D → Option (Int × Int)) (deep : Bool) (item : D) (j : Int × Int) : Option (Int × Int) :=
  if cmdB item = true then some (j.1 + 1, j.2)
  else match tryP item with
    | none => none
    | some (x, y) => if deep = true then none else match rec x, rec y with
      | some a, some b => some (j.1 + a.1 + b.1, j.2 + a.2 + b.2 + 1)
      | _, _ => none
def cnR (rec : D → Option (Int × Int)) (deep : Bool) : List D → Int × Int → Option (Int × Int)
  | [], j => some j
  | x :: xs, j => match cnI rec deep x j with
    | none => none
    | some j' => cnR rec deep xs j'
def cn : Nat → D → Int → Option (Int × Int)
  | 0, _, _ => none
  | n + 1, v, d => match seqI v with
    | none => none
    | some xs => cnR (fun x => cn n x (d + 1)) (decide (2 < d)) xs (0, 0)
def tupO : Option (Int × Int) → D
  | none => .non
  | some p => .tup [.int p.1, .int p.2]
theorem tryP_some {v x y : D} (h : tryP v = some (x, y)) : v = .tup [.str trW, x, y] := by
  unfold tryP at h
  split at h
  · split at h
    · rename_i e
      cases h
      rw [eq_of_beq e]
    · cases h
  · cases h
def firstI (k : Nat) : D → D
  | .tup xs => xs.getD k .non
  | _ => .non
theorem sum2 {a b c : Int} (e : a + b = c) : sumW (.lst [.int a, .int b]) = PL.ret c := by
  have h : sumW (.lst [.int a, .int b]) = PL.ret (([a, b] : List Int).sum) := rfl
  rw [h, show ([a, b] : List Int).sum = c by simp [e]]
theorem none_in (a b : Option (Int × Int)) : inDp false .non (.lst [tupO a, tupO b]) = ret (.bl (a.isNone || b.isNone)) := by
  show grd _ _ = _
  rw [grd_pos]
  · cases a <;> cases b <;> rfl
  · refine ⟨rfl, ?_⟩
    cases a <;> cases b <;> simp [okD, SeqAt.shaped, py, pys, tupO, PyData.canLay0, PyData.canLayAll0, PyData.strOk, PyData.depth, PyData.depthAll]
def pbody (n : Nat) (d : Int) (item : D) (j : Int × Int) : W (Step (Int × Int) D) :=
    bnd (bnd (cl (d_is_command item)) fun y => tru y) fun kk => if kk = true then
    ret (.go ((j.1 + 1), j.2))
    else
    bnd (andB (bnd (cl (d_is_try item)) fun y1 => tru y1) (ret (decide (d < 3)))) fun kk => if kk = true then
    bnd (bnd (slD item (some 1) none) fun s => bnd (items s) fun xs1 => mapP (fun block => cl ((m_parts_of n) [.d block, .d (.int (d + 1))])) xs1) fun inner =>
    bnd (bnd (inDp false .non (.lst inner)) fun k3 => blB k3) fun kk => if kk = true then
    ret (.out .non)
    else
    bnd (bnd (mapP (fun part => ixD part (.int 0)) inner) fun xs2 => bnd (sumW (.lst xs2)) fun total => ret (j.1 + total)) fun commands =>
    bnd (bnd (mapP (fun part1 => ixD part1 (.int 1)) inner) fun xs3 => bnd (sumW (.lst xs3)) fun total1 => ret (j.2 + (1 + total1))) fun tries =>
    ret (.go (commands, tries))
    else
    ret (.out .non)
theorem pbody_ok {n : Nat} {d : Int} (IH : d < 3 → ∀ x, m_parts_of n [.d x, .d (.int (d + 1))] = ret (tupO (cn n x (d + 1)))) (x : D) (j : Int × Int) : pbody n d x j = match cnI (fun x => cn n x (d + 1)) (decide (2 < d)) x j with
    | none => PL.ret (.out .non)
    | some j' => PL.ret (.go j') := by
    unfold pbody
    rw [is_command_eq, cl_ret, bnd_ret, tru_bl, bnd_ret]
    unfold cnI
    cases hc : cmdB x with
    | true =>
      rw [if_pos rfl, if_pos rfl]
    | false =>
      rw [if_neg (by decide), if_neg (by decide), is_try_eq, cl_ret, bnd_ret, tru_bl, andB_ret, bnd_ret]
      cases ht : tryP x with
      | none => rfl
      | some p =>
        obtain ⟨a, b⟩ := p
        by_cases hd : d < 3
        · have hd2 : ¬ 2 < d := by omega
          simp only [hd, hd2, decide_true, decide_false, Option.isSome_some, Bool.and_self, if_true, Bool.false_eq_true, if_false]
          rw [tryP_some ht]
          have e1 : slD (.tup [.str trW, a, b]) (some 1) none = ret (.tup [a, b]) := by
            rw [slD_tup, show (1 : Int) = ((1 : Nat) : Int) from rfl, cut_drop]
            rfl
          rw [e1, bnd_ret, items_tup, bnd_ret, mapP_ret (g := fun z => tupO (cn n z (d + 1))) (Nat.le_of_ble_eq_true rfl) (fun z _ => by rw [IH hd z, cl_ret]), bnd_ret]
          show bnd (bnd (inDp false .non (.lst [tupO (cn n a (d + 1)), tupO (cn n b (d + 1))])) _) _ = _
          rw [none_in, bnd_ret, blB_bl, bnd_ret]
          cases ha : cn n a (d + 1) with
          | none => rfl
          | some p1 =>
            cases hb : cn n b (d + 1) with
            | none => rfl
            | some p2 =>
              rw [if_neg (show ¬ ((some p1).isNone || (some p2).isNone) = true from Bool.false_ne_true), mapP_ret (g := firstI 0) (Nat.le_of_ble_eq_true rfl) (fun z hz => by
                simp only [List.map_cons, List.map_nil, List.mem_cons, List.not_mem_nil, or_false, ha, hb] at hz
                rcases hz with rfl | rfl <;> exact ix0 _ _)]
              rw [bnd_ret]
              show bnd (bnd (sumW (.lst [firstI 0 (tupO (cn n a (d + 1))), firstI 0 (tupO (cn n b (d + 1)))])) _) _ = _
              rw [ha, hb]
              show bnd (bnd (sumW (.lst [.int p1.1, .int p2.1])) _) _ = _
              rw [sum2 rfl, bnd_ret, bnd_ret, mapP_ret (g := firstI 1) (Nat.le_of_ble_eq_true rfl) (fun z hz => by
                simp only [List.map_cons, List.map_nil, List.mem_cons, List.not_mem_nil, or_false, ha, hb] at hz
                rcases hz with rfl | rfl <;> exact ix1 _ _ _)]
              rw [bnd_ret]
              show bnd (bnd (sumW (.lst [firstI 1 (tupO (cn n a (d + 1))), firstI 1 (tupO (cn n b (d + 1)))])) _) _ = _
              rw [ha, hb]
              show bnd (bnd (sumW (.lst [.int p1.2, .int p2.2])) _) _ = _
              rw [sum2 rfl, bnd_ret, bnd_ret, show j.1 + (p1.1 + p2.1) = j.1 + p1.1 + p2.1 by omega, show j.2 + (1 + (p1.2 + p2.2)) = j.2 + p1.2 + p2.2 + 1 by omega]
        · have hd2 : 2 < d := by omega
          simp only [hd, hd2, decide_true, decide_false, Bool.and_false, Bool.false_eq_true, if_false, if_true]
theorem parts_run {n : Nat} {d : Int} (IH : d < 3 → ∀ x, m_parts_of n [.d x, .d (.int (d + 1))] = ret (tupO (cn n x (d + 1)))) : ∀ (xs : List D) (j : Int × Int), forT (pbody n d) (fun j1 => ret (.tup [(.int j1.1), (.int j1.2)])) xs j = ret (tupO (cnR (fun x => cn n x (d + 1)) (decide (2 < d)) xs j))
  | [], j => rfl
  | x :: xs, j => by
    unfold forT cnR
    rw [pbody_ok IH x j]
    cases cnI (fun x => cn n x (d + 1)) (decide (2 < d)) x j with
    | none => rfl
    | some j' => exact parts_run IH xs j'
theorem parts_ok : ∀ (n : Nat) (v : D) (d : Int), d ≤ 3 → 3 - d < n → m_parts_of n [.d v, .d (.int d)] = ret (tupO (cn n v d))
  | 0, _, _, _, _ => by omega
  | n + 1, v, d, h1, h2 => by
    show d_parts_of (m_parts_of n) v d = _
    unfold d_parts_of cn
    have IH : d < 3 → ∀ x, m_parts_of n [.d x, .d (.int (d + 1))] = ret (tupO (cn n x (d + 1))) := fun h x => parts_ok n x (d + 1) (by omega) (by omega)
    cases v with
    | lst xs =>
      rw [if_neg (show ¬ (!isA [.tup, .lst] (.lst xs)) = true from Bool.false_ne_true), items_lst, bnd_ret]
      exact parts_run IH xs (0, 0)
    | tup xs =>
      rw [if_neg (show ¬ (!isA [.tup, .lst] (.tup xs)) = true from Bool.false_ne_true), items_tup, bnd_ret]
      exact parts_run IH xs (0, 0)
    | _ => rfl
theorem iI (i : Int) : intI (.int i) = PL.ret i := rfl
def okB : Option (Int × Int) → Bool
  | none => false
  | some p => decide (p.1 ≤ 20) && decide (p.2 ≤ 4)
theorem is_program_ok (v : D) : d_is_program v = ret (.bl (okB (cn 6 v 0))) := by
  unfold d_is_program
  rw [k_parts_of_eq, parts_ok 6 v 0 (by decide) (by decide), cl_ret, bnd_ret]
  cases cn 6 v 0 with
  | none => rfl
  | some p =>
    simp only [tupO, ix0, ix1, bnd_ret, iI, andD_bl, isNone, Bool.not_false, Bool.true_and, okB]
end Q82

namespace Q82
open PySem PySem.Spec L2 PL
/-! ### what the readers give -/
def ItD (P : D → Prop) (x : D) : Prop := cmdB x = true ∨ ∃ a b, x = tryD a b ∧ P a ∧ P b
def PrD : Nat → D → Prop
  | 0, _ => False
  | k + 1, v => ∃ xs, v = .tup xs ∧ ∀ x ∈ xs, ItD (PrD k) x
theorem item_prd {rc : PT} {P : D → Prop} (h : ∀ s v r, rc s = some (v, r) → P v) {s : List Nat} {x : D} {r : List Nat} (e : itemP rc s = some (x, r)) : ItD P x := by
  unfold itemP at e
  split at e
  · unfold rdTry at e
    split at e
    · cases e
    · rename_i a r1 h1
      split at e
      · split at e
        · cases e
        · rename_i b r2 h2
          split at e
          · cases e
            exact .inr ⟨a, b, rfl, h _ _ _ h1, h _ _ _ h2⟩
          · cases e
      · cases e
  · unfold cmdP at e
    split at e
    · cases e
    · rename_i hn
      cases e
      rcases cIn_cases (wordsL (cutC s).1) with hc | hc
      · exact absurd (by unfold cW; rw [hc]; rfl) hn
      · exact .inl hc
theorem loop_prd {rc : PT} {P : D → Prop} (h : ∀ s v r, rc s = some (v, r) → P v) : ∀ (f : Nat) (s : List Nat) (acc : List D) (v : D) (r : List Nat), (∀ x ∈ acc, ItD P x) → loopP rc f s acc = some (v, r) → ∃ xs, v = .tup xs ∧ ∀ x ∈ xs, ItD P x
  | 0, _, _, _, _, _, e => nomatch e
  | f + 1, s, acc, v, r, ha, e => by
    unfold loopP at e
    split at e
    · cases e
    · rename_i x r1 h1
      have hx : ∀ y ∈ acc ++ [x], ItD P y := fun y hy => (List.mem_append.mp hy).elim (ha y) fun z => by rw [List.mem_singleton.mp z]; exact item_prd h h1
      split at e
      · exact loop_prd h f _ _ v r hx e
      · cases e
        exact ⟨_, rfl, hx⟩
theorem prog_prd : ∀ (k : Nat) (s : List Nat) (v : D) (r : List Nat), progP k s = some (v, r) → PrD k v
  | 0, _, _, _, e => nomatch e
  | k + 1, s, v, r, e => by
    have e : blockP (progP k) s = some (v, r) := e
    unfold blockP at e
    split at e
    · cases e
      exact ⟨[], rfl, fun _ h => nomatch h⟩
    · exact loop_prd (prog_prd k) _ _ _ v r (fun _ h => absurd h List.not_mem_nil) e
/-! ### sizes counted -/
theorem neB_int (i j : Int) : neB (.int i) (.int j) = ret (!decide (i = j)) := by
  unfold neB
  rw [grd_pos (.inl ⟨rfl, rfl⟩)]
  simp only [py, PyData.eqv]
  rfl
def szBody (recF : List SV → W D) (one : D) (j : Int × Int) : W (Step (Int × Int) D) :=
    bnd (bnd (ixD one (.int 0)) fun y => eqB y (.str (Str.ofString "try"))) fun kk => if kk = true then
    bnd (bnd (ixD one (.int 1)) fun y1 => bnd (cl (recF [.d y1])) fun y2 => bnd (ixD one (.int 2)) fun y3 => bnd (cl (recF [.d y3])) fun y4 => ret [y2, y4]) fun sizes =>
    bnd (bnd (ixD (.lst sizes) (.int 0)) fun y5 => bnd (ixD y5 (.int 0)) fun y6 => bnd (intI y6) fun i => bnd (ixD (.lst sizes) (.int 1)) fun y7 => bnd (ixD y7 (.int 0)) fun y8 => bnd (intI y8) fun i1 => ret ((j.1 + i) + i1)) fun many =>
    bnd (bnd (ixD (.lst sizes) (.int 0)) fun y9 => bnd (ixD y9 (.int 1)) fun y10 => bnd (intI y10) fun i2 => bnd (ixD (.lst sizes) (.int 1)) fun y11 => bnd (ixD y11 (.int 1)) fun y12 => bnd (intI y12) fun i3 => ret (((j.2 + 1) + i2) + i3)) fun tries =>
    ret (.go (many, tries))
    else
    ret (.go ((j.1 + 1), j.2))
theorem head_no_try {x : D} (h : cmdB x = true) : ∃ (a : Str) (r : List D), x = .tup (.str a :: r) ∧ (a == Str.ofString "try") = false := by
  have kn : ∀ a : Str, kindB a = true → (a == Str.ofString "try") = false := fun a ha => by
    unfold kindB at ha
    simp only [Bool.or_eq_true, beq_iff_eq] at ha
    rcases ha with h | h | h | h <;> rw [← h] <;> decide +kernel
  unfold cmdB at h
  split at h
  · rw [Bool.and_eq_true] at h
    exact ⟨_, _, rfl, kn _ h.2⟩
  · simp only [Bool.and_eq_true] at h
    refine ⟨_, _, rfl, ?_⟩
    rw [eq_of_beq h.1.2]
    decide +kernel
  · cases h
theorem szBody_cmd {recF : List SV → W D} {x : D} (h : cmdB x = true) (j : Int × Int) : szBody recF x j = ret (.go (j.1 + 1, j.2)) := by
  obtain ⟨a, r, rfl, ha⟩ := head_no_try h
  unfold szBody
  rw [iT0, bnd_ret, eqB_str, bnd_ret, ha, if_neg (by decide)]
theorem szBody_try {recF : List SV → W D} {a b : D} {c1 t1 c2 t2 : Int} (h1 : recF [.d a] = ret (.tup [.int c1, .int t1])) (h2 : recF [.d b] = ret (.tup [.int c2, .int t2])) (j : Int × Int) : szBody recF (tryD a b) j = ret (.go (j.1 + c1 + c2, j.2 + 1 + t1 + t2)) := by
  unfold szBody tryD
  rw [iT0, bnd_ret, eqB_str, beq_self_eq_true, bnd_ret, if_pos rfl, iT1, bnd_ret, h1, cl_ret, bnd_ret, ix2, bnd_ret, h2, cl_ret, bnd_ret, bnd_ret]
  simp only [iL0, iL1, iT0, iT1, bnd_ret, intI_i]
theorem tryD_cmdB (a b : D) : cmdB (tryD a b) = false := by
  cases h : cmdB (tryD a b) with
  | false => rfl
  | true =>
    obtain ⟨s, r, e, hs⟩ := head_no_try h
    cases e
    exact absurd hs (by decide +kernel)
theorem tryD_tryP (a b : D) : tryP (tryD a b) = some (a, b) := by
  show (if wTry == trW then some (a, b) else none) = _
  rw [show (wTry == trW) = true from beq_self_eq_true _]
  rfl
theorem size_run {k n m : Nat} {d : Int} (hd : 0 < k → d ≤ 2)
    (IH : ∀ a, PrD k a → ∃ c t : Nat, cn n a (d + 1) = some ((c : Int), (t : Int)) ∧ m_l_size m [.d a] = ret (.tup [.int c, .int t]) ∧ Sz (41 * c + 7 * t) (2 * k + 1) a) :
    ∀ (xs : List D) (j : Int × Int), (∀ x ∈ xs, ItD (PrD k) x) → ∃ c t : Nat, cnR (fun x => cn n x (d + 1)) (decide (2 < d)) xs j = some (j.1 + c, j.2 + t) ∧ forT (szBody (m_l_size m)) (fun j1 => ret (.tup [(.int j1.1), (.int j1.2)])) xs j = ret (.tup [.int (j.1 + c), .int (j.2 + t)]) ∧ Parts (2 * k + 2) xs ∧ bulks xs ≤ 41 * c + 7 * t
  | [], j, _ => ⟨0, 0, by
      show some j = some (j.1 + ((0 : Nat) : Int), j.2 + ((0 : Nat) : Int))
      rw [show ((0 : Nat) : Int) = 0 from rfl, Int.add_zero, Int.add_zero], by
      show PL.ret (D.tup [.int j.1, .int j.2]) = ret (.tup [.int (j.1 + ((0 : Nat) : Int)), .int (j.2 + ((0 : Nat) : Int))])
      rw [show ((0 : Nat) : Int) = 0 from rfl, Int.add_zero, Int.add_zero], .nil, by rw [bulks_nil]; exact Nat.zero_le _⟩
  | x :: xs, j, h => by
    rcases h x List.mem_cons_self with hc | ⟨a, b, rfl, h1, h2⟩
    · obtain ⟨c, t, g1, g2, g3, g4⟩ := size_run hd IH xs (j.1 + 1, j.2) fun y hy => h y (List.mem_cons_of_mem _ hy)
      have hz := (cmdB_ok hc).1
      refine ⟨c + 1, t, ?_, ?_, .cons ⟨hz.1, Nat.le_trans hz.2.2 (by omega)⟩ g3, ?_⟩
      · unfold cnR cnI
        rw [if_pos hc]
        show cnR _ _ xs (j.1 + 1, j.2) = _
        rw [g1]
        show some (j.1 + 1 + (c : Int), j.2 + (t : Int)) = some (j.1 + ((c + 1 : Nat) : Int), j.2 + (t : Int))
        rw [show j.1 + 1 + (c : Int) = j.1 + ((c + 1 : Nat) : Int) by omega]
      · unfold forT
        rw [szBody_cmd hc, bnd_ret]
        show forT _ _ xs (j.1 + 1, j.2) = _
        rw [g2]
        show PL.ret (D.tup [.int (j.1 + 1 + (c : Int)), .int (j.2 + (t : Int))]) = ret (.tup [.int (j.1 + ((c + 1 : Nat) : Int)), .int (j.2 + (t : Int))])
        rw [show j.1 + 1 + (c : Int) = j.1 + ((c + 1 : Nat) : Int) by omega]
      · rw [bulks_cons]
        have := hz.2.1
        omega
    · obtain ⟨c1, t1, p1, p2, p3⟩ := IH a h1
      obtain ⟨c2, t2, q1, q2, q3⟩ := IH b h2
      have hk : 0 < k := by cases k with | zero => exact h1.elim | succ k => exact Nat.succ_pos k
      have hd := hd hk
      obtain ⟨c, t, g1, g2, g3, g4⟩ := size_run (fun _ => hd) IH xs (j.1 + c1 + c2, j.2 + 1 + t1 + t2) fun y hy => h y (List.mem_cons_of_mem _ hy)
      have hst : Sz 3 0 (.str wTry) := Sz.str (by decide +kernel) (by decide +kernel)
      have hp : Parts (2 * k + 1) [.str wTry, a, b] := .cons (hst.up (Nat.le_refl _) (Nat.zero_le _)).pt (.cons p3.pt (.cons q3.pt .nil))
      have hb : bulks [.str wTry, a, b] ≤ 41 * c1 + 7 * t1 + (41 * c2 + 7 * t2) + 6 := by
        rw [bulks_cons, bulks_cons, bulks_cons, bulks_nil]
        have := hst.2.1; have := p3.2.1; have := q3.2.1
        omega
      have hz : Sz _ (2 * k + 2) (tryD a b) := Sz.tup hp hb
      refine ⟨c1 + c2 + c, t1 + t2 + 1 + t, ?_, ?_, .cons hz.pt g3, ?_⟩
      · unfold cnR cnI
        rw [if_neg (by rw [tryD_cmdB]; decide), tryD_tryP]
        have e2 : decide (2 < d) = false := decide_eq_false (by omega)
        simp only [e2, Bool.false_eq_true, if_false, p1, q1] at g1 ⊢
        rw [show j.2 + (t1 : Int) + (t2 : Int) + 1 = j.2 + 1 + (t1 : Int) + (t2 : Int) by omega, g1]
        simp only [Option.some.injEq, Prod.mk.injEq]
        exact ⟨by omega, by omega⟩
      · unfold forT
        rw [szBody_try p2 q2, bnd_ret]
        show forT _ _ xs (j.1 + c1 + c2, j.2 + 1 + t1 + t2) = _
        rw [g2]
        show PL.ret (D.tup [.int (j.1 + (c1 : Int) + (c2 : Int) + (c : Int)), .int (j.2 + 1 + (t1 : Int) + (t2 : Int) + (t : Int))]) = _
        rw [show j.1 + (c1 : Int) + (c2 : Int) + (c : Int) = j.1 + ((c1 + c2 + c : Nat) : Int) by omega, show j.2 + 1 + (t1 : Int) + (t2 : Int) + (t : Int) = j.2 + ((t1 + t2 + 1 + t : Nat) : Int) by omega]
      · rw [bulks_cons]
        have := hz.2.1
        omega
theorem size_ok : ∀ (k n m : Nat) (d : Int) (v : D), d = 4 - k → k ≤ n → k ≤ m → PrD k v → ∃ c t : Nat, cn n v d = some ((c : Int), (t : Int)) ∧ m_l_size m [.d v] = ret (.tup [.int c, .int t]) ∧ Sz (41 * c + 7 * t) (2 * k + 1) v
  | 0, _, _, _, _, _, _, _, h => h.elim
  | k + 1, 0, _, _, _, _, h, _, _ => by omega
  | k + 1, _, 0, _, _, _, _, h, _ => by omega
  | k + 1, n + 1, m + 1, d, v, hd, hn, hm, h => by
    obtain ⟨xs, rfl, hx⟩ := h
    obtain ⟨c, t, g1, g2, g3, g4⟩ := size_run (k := k) (n := n) (m := m) (d := d) (fun h => by omega) (fun a ha => size_ok k n m (d + 1) a (by omega) (by omega) (by omega) ha) xs (0, 0) hx
    refine ⟨c, t, ?_, ?_, Sz.tup g3 g4⟩
    · show cnR (fun x => cn n x (d + 1)) (decide (2 < d)) xs (0, 0) = _
      rw [g1]
      show some (0 + (c : Int), 0 + (t : Int)) = _
      rw [Int.zero_add, Int.zero_add]
    · show d_l_size (m_l_size m) (.tup xs) = _
      unfold d_l_size
      rw [items_tup, bnd_ret]
      show forT (szBody (m_l_size m)) (fun j1 => ret (.tup [(.int j1.1), (.int j1.2)])) xs (0, 0) = _
      rw [g2]
      show PL.ret (D.tup [.int (0 + (c : Int)), .int (0 + (t : Int))]) = _
      rw [Int.zero_add, Int.zero_add]
end Q82

namespace Q82
open PySem PySem.Spec L2 PL
abbrev tText : Str := Str.ofString "text"
abbrev eTxt (d : D) : Exc := (Str.ofString "InvalidText", [(Str.ofString "position", d)])
/-! ### errors heard -/
theorem tryW_rse {α γ : Type} (e : Exc) (k : α → W γ) (h : Exc → W γ) : PL.tryW (rse e) k h = h e := rfl
theorem onB_t {α : Type} (m : W α) : onB true m = m := rfl
section
variable {t : ETab} {x y : Str} {fs : List (Str × D)} {ys : List Str} {b : Bool}
theorem isW_is (hk : kn t x = true) (h : isS t x y = b) : isW t y (x, fs) = ret (.bl b) := by
  unfold isW
  rw [hk, h]
  rfl
theorem isTW_is (hk : kn t x = true) (h : ys.any (isS t x) = b) : isTW t ys (x, fs) = ret (.bl b) := by
  unfold isTW
  rw [hk, h]
  rfl
theorem fldW_is {f : Str} {d : D} (hk : ys.contains x = true) (h : fs.lookup f = some d) : fldW ys f (x, fs) = ret d := by
  unfold fldW
  rw [hk]
  show (match fs.lookup f with | some d => ret d | none => stuck) = _
  rw [h]
end
theorem heard_ret (d : D) : d_l_heard (ret d) = ret (.lst [d]) := by
  unfold d_l_heard
  rfl
theorem heard_txt (d : D) : d_l_heard (rse (eTxt d)) = ret (.tup [.str tText, d]) := by
  unfold d_l_heard
  rw [tryW_rse, show cat errT [Str.ofString "RewindError", Str.ofString "Refused", Str.ofString "Full", Str.ofString "TooLong", Str.ofString "TooLarge"] (eTxt d) = true by show (kn errT (Str.ofString "InvalidText") && List.any _ (isS errT (Str.ofString "InvalidText"))) = true; decide +kernel, onB_t, if_neg (by decide)]
  rw [isW_is (t := errT) (x := Str.ofString "InvalidText") (y := Str.ofString "InvalidText") (b := true) (by decide +kernel) (by decide +kernel), bnd_ret, tru_bl, bnd_ret, isW_is (t := errT) (x := Str.ofString "InvalidText") (y := Str.ofString "ValueError") (b := true) (by decide +kernel) (by decide +kernel), bnd_ret, tru_bl, bnd_ret, orB_ret, bnd_ret, if_neg (by decide)]
  rw [isTW_is (t := errT) (x := Str.ofString "InvalidText") (ys := [Str.ofString "InvalidScript", Str.ofString "InvalidState", Str.ofString "InvalidProgram", Str.ofString "InvalidCommand", Str.ofString "InvalidLine"]) (b := false) (by decide +kernel) (by decide +kernel), bnd_ret, tru_bl, bnd_ret, if_neg (by decide), fldW_is (ys := [Str.ofString "InvalidText"]) (by decide +kernel) (by rw [List.lookup_cons_self]), bnd_ret]
/-! ### what is read, what is due -/
def wri (x : D) : Option D := match x with
  | .str a => match progP 4 (TL.tl a) with
    | some (v, []) => if okB (cn 6 v 0) = true then some v else none
    | _ => none
  | _ => none
def TOk (x : D) : Prop := ∀ a, x = .str a → a.length ≤ Big
theorem wri_none {a : Str} (h : progP 4 (TL.tl a) = none) : wri (.str a) = none := by
  unfold wri
  simp only [h]
theorem wri_rest {a : Str} {v : D} {r : List Nat} (h : progP 4 (TL.tl a) = some (v, r)) (hr : r ≠ []) : wri (.str a) = none := by
  unfold wri
  cases r with
  | nil => exact absurd rfl hr
  | cons c r => simp only [h]
theorem wri_some {a : Str} {v : D} (h : progP 4 (TL.tl a) = some (v, [])) : wri (.str a) = if okB (cn 6 v 0) = true then some v else none := by
  unfold wri
  simp only [h]
theorem iN (v : D) (q : Int) : ixD (.tup [v, .int q]) (.int 1) = PL.ret (.int q) := iT1 _ _ _
theorem read_eq {x : D} (h : TOk x) : d_read_program x = match wri x with
    | none => rse (eTxt .non)
    | some v => ret v := by
  unfold d_read_program
  cases x with
  | str a =>
    have ha := h a rfl
    have hn : d_need_text (.str a) = ret .non := by unfold d_need_text; rfl
    obtain ⟨e1, e2⟩ := prog_eq ha 4 6 0 rfl (by decide) (by decide) 0 (Nat.zero_le _)
    rw [List.drop_zero] at e1 e2
    rw [hn, cl_ret, bnd_ret, k_program_at_eq]
    show bnd (cl (m_program_at 6 [.d (.str a), .d (.int ((0 : Nat) : Int)), .d (.int 0)])) _ = _
    rw [e1, cl_ret, bnd_ret]
    cases hp : progP 4 (TL.tl a) with
    | none => rw [wri_none hp]; rfl
    | some z =>
      obtain ⟨v, r⟩ := z
      obtain ⟨q, _, q2, rfl⟩ := e2 v r hp
      rw [pr_at q2]
      rw [show isNone (.tup [v, .int (q : Int)]) = false from rfl, orB0, iN, bnd_ret]
      show bnd (orB (bnd (PL.ret (a.length : Int)) fun n => neB (.int (q : Int)) (.int n)) _) _ = _
      rw [bnd_ret, neB_int]
      rw [lz] at q2
      by_cases hq : q = a.length
      · subst hq
        have hd : (TL.tl a).drop a.length = [] := List.drop_of_length_le (by rw [lz]; exact Nat.le_refl _)
        rw [hd] at hp
        rw [wri_some hp, decide_eq_true rfl, Bool.not_true, orB0, iT0, bnd_ret, is_program_ok, cl_ret, bnd_ret, tru_bl, bnd_ret, bnd_ret]
        cases okB (cn 6 v 0) with
        | true => rfl
        | false => rfl
      · have hd : (TL.tl a).drop q ≠ [] := fun z => by
          have := congrArg List.length z
          rw [List.length_drop, lz, List.length_nil] at this
          omega
        rw [wri_rest hp hd, decide_eq_false (by omega), Bool.not_false, orB1, bnd_ret, if_pos rfl]
        rfl
  | _ => unfold d_need_text; rfl
theorem last_ends {pre : List Str} {w : Str} (h : ends w = false) : (J (pre ++ [w])).getLast? ≠ some 59 := by
  have e : J [w] = TL.tl w := by rw [J_cons, show R [] = [] from rfl, List.append_nil]
  have hw : (TL.tl w).getLast? ≠ some 59 := fun z => by
    unfold ends at h
    rw [z] at h
    cases h
  cases pre with
  | nil => rw [List.nil_append, e]; exact hw
  | cons p pre =>
    rw [J_app (a := p :: pre) [w] (fun z => nomatch z), show R [w] = 32 :: J [w] from rfl, e]
    cases ht : TL.tl w with
    | nil => rw [List.getLast?_append]; exact fun z => nomatch z
    | cons c t =>
      rw [ht] at hw
      rw [List.getLast?_append, List.getLast?_cons_cons]
      cases hg : (c :: t).getLast? with
      | none => rw [List.getLast?_eq_none_iff] at hg; cases hg
      | some z => rw [hg] at hw; exact hw
theorem mem_words {s : List Nat} {w : Str} (h : w ∈ wordsL s) : ∀ k ∈ TL.tl w, k ∈ s := by
  obtain ⟨p, hp, rfl⟩ := List.mem_map.mp h
  obtain ⟨_, h2⟩ := spl_good s [] (fun z => nomatch z)
  rw [List.nil_append] at h2
  have key : ∀ (L : List (List Nat)) (p : List Nat), p ∈ L → ∀ k ∈ p, k ∈ TL.joinL [32] L := by
    intro L
    induction L with
    | nil => intro p hp; cases hp
    | cons x L ih =>
      intro p hp k hk
      cases L with
      | nil => rw [List.mem_singleton.mp hp] at hk; exact hk
      | cons y L =>
        show k ∈ x ++ ([32] ++ TL.joinL [32] (y :: L))
        rcases List.mem_cons.mp hp with rfl | hp
        · exact List.mem_append_left _ hk
        · exact List.mem_append_right _ (List.mem_append_right _ (ih p hp k hk))
  intro k hk
  have := key _ p hp k hk
  rw [h2] at this
  exact this
/-- texts of signs that there are -/
def U (s : Str) : Prop := ∀ k ∈ TL.tl s, k < 1114112
theorem U.ok {s : Str} (h : U s) : okD (.str s) = true := okD_small h
def TU (x : D) : Prop := ∀ a, x = .str a → a.length ≤ Big ∧ U a
theorem TU.t {x : D} (h : TU x) : TOk x := fun a e => (h a e).1
theorem words_len {s : List Nat} (h : s.length ≤ Big) : (∀ w ∈ wordsL s, w.length ≤ Big) ∧ (wordsL s).length ≤ 930000 := by
  have e := split_words s
  have hl : (mkS s).length ≤ Big := by rw [← lz, tl_mkS]; exact h
  rw [← e]
  exact ⟨fun w hw => Nat.le_trans (split_part hw) hl, Nat.le_trans (split_len hl) (by decide)⟩
def tailD (thing : D) (words : List D) (found : D) : W D :=
    bnd (bnd (andB (ret (!isNone found)) (orB (bnd (ixD found (.int 1)) fun y1 => neB y1 (.int (words.length : Int))) (bnd (slD thing (some (-1)) none) fun s => eqB s (.str (Str.ofString ";"))))) fun kk => if kk = true then
    ret .non
    else
    ret found) fun j => if (isNone j) = true then
    ret (.tup [(.str (Str.ofString "text")), .non])
    else
    bnd (bnd (ixD j (.int 0)) fun y2 => bnd (cl (k_l_size [.d y2])) fun y3 => unp2 y3) fun p =>
    bnd (andB (bnd (intI p.1) fun i => ret (decide (i ≤ 20))) (bnd (intI p.2) fun i1 => ret (decide (i1 ≤ 4)))) fun k4 => if k4 = true then bnd (ixD j (.int 0)) fun y4 => ret (.lst [y4]) else ret (.tup [(.str (Str.ofString "text")), .non])
theorem due_unf (x : Str) : d_l_due (.str x) = bnd (onStr (.str x) (splitW (.str x) (.str (Str.ofString " ")))) fun words => bnd (cl (k_l_block_in [.d (.lst words), .d (.int 0), .d (.int 0)])) fun found => tailD (.str x) words found := by
  unfold d_l_due
  rw [show isT .str (.str x) = true from rfl, bnd_ret, if_pos rfl, bnd_bnd]
  refine congrArg (bnd _) (funext fun words => ?_)
  rw [bnd_bnd]
  all_goals rfl
theorem unp2_tup (a b : D) : unp2 (.tup [a, b]) = ret (a, b) := rfl
theorem tail_good {x : Str} {ws : List D} {v : D} {q : Nat} (hq : q = ws.length) (he : ends x = false) (hv : PrD 4 v) :
    tailD (.str x) ws (.tup [v, .int (q : Int)]) = if okB (cn 6 v 0) = true then ret (.lst [v]) else ret (.tup [.str tText, .non]) := by
  obtain ⟨c, t, e1, e2, _⟩ := size_ok 4 6 6 0 v rfl (by decide) (by decide) hv
  unfold tailD
  rw [show isNone (.tup [v, .int (q : Int)]) = false from rfl, Bool.not_false, andB1, iN, bnd_ret, neB_int, decide_eq_true (by rw [hq]), Bool.not_true, orB0, last_sl, he, bnd_ret, if_neg (by decide), bnd_ret, show isNone (.tup [v, .int (q : Int)]) = false from rfl, if_neg (by decide)]
  simp only [iT0, bnd_ret]
  rw [k_l_size_eq, e2, cl_ret, bnd_ret, unp2_tup, bnd_ret]
  simp only [intI_i, bnd_ret]
  rw [andB_ret, bnd_ret, e1]
  show (if (decide ((c : Int) ≤ 20) && decide ((t : Int) ≤ 4)) = true then _ else _) = if (decide ((c : Int) ≤ 20) && decide ((t : Int) ≤ 4)) = true then _ else _
  all_goals rfl
theorem tail_rest {x : Str} {ws : List D} {v : D} {q : Nat} (hq : q ≠ ws.length) : tailD (.str x) ws (.tup [v, .int (q : Int)]) = ret (.tup [.str tText, .non]) := by
  unfold tailD
  rw [show isNone (.tup [v, .int (q : Int)]) = false from rfl, Bool.not_false, andB1, iN, bnd_ret, neB_int, decide_eq_false (by omega), Bool.not_false, orB1, bnd_ret, if_pos rfl, bnd_ret]
  all_goals rfl
theorem due_eq {x : D} (h : TU x) : d_l_due x = match wri x with
    | none => ret (.tup [.str tText, .non])
    | some v => ret (.lst [v]) := by
  cases x with
  | str a =>
    obtain ⟨ha, hu⟩ := h a rfl
    rw [due_unf]
    show bnd (splitW (.str a) (.str tSp)) _ = _
    rw [split_ret len_sp ha, bnd_ret]
    have ews : Txt.split a tSp = wordsL (TL.tl a) := by
      have := split_words (TL.tl a)
      rw [mkS_tl] at this
      exact this
    rw [ews]
    obtain ⟨h1, h2, h3⟩ := words_ok (TL.tl a)
    obtain ⟨h4, h5⟩ := words_len (s := TL.tl a) (by rw [lz]; exact ha)
    have hW : WO (wordsL (TL.tl a)) := fun w hw => (show U w from fun k hk => hu k (mem_words hw k hk)).ok
    have hrel := prog_rel 4 _ h1 h2
    rw [h3] at hrel
    generalize wordsL (TL.tl a) = ws at *
    obtain ⟨e1, e2⟩ := block_eq hW h4 h5 4 6 0 rfl (by decide) (by decide) 0 (Nat.zero_le _)
    rw [List.drop_zero] at e1 e2
    rw [k_l_block_in_eq]
    show bnd (cl (m_l_block_in 6 [.d (.lst (ws.map .str)), .d (.int ((0 : Nat) : Int)), .d (.int 0)])) _ = _
    rw [e1, cl_ret, bnd_ret]
    have some_at : ∀ v t, progL 4 ws = some (v, t) → ∃ q : Nat, prL ws.length (some (v, t)) = .tup [v, .int (q : Int)] ∧ (q = ws.length ↔ t = []) := fun v t hl => by
      obtain ⟨q, _, q2, rfl⟩ := e2 v t hl
      refine ⟨q, prL_at q2 .., ⟨fun z => List.drop_of_length_le (by omega), fun z => ?_⟩⟩
      have := congrArg List.length z
      rw [List.length_drop, List.length_nil] at this
      omega
    rcases hrel with ⟨b1, b2⟩ | ⟨d, pre, w, t, g1, g2, g3, g4, g5⟩
    · have hw : wri (.str a) = none := by
        rcases b1 with b1 | ⟨d, r, b1, b3, _⟩
        · exact wri_none b1
        · exact wri_rest b1 b3
      rw [hw]
      rcases b2 with b2 | ⟨d, w, r, b2, _⟩
      · rw [b2]
        rfl
      · obtain ⟨q, c1, c2⟩ := some_at _ _ b2
        rw [b2, c1, tail_rest (by rw [List.length_map]; exact fun z => nomatch c2.mp z)]
    · obtain ⟨q, c1, c2⟩ := some_at _ _ g3
      rw [g3, c1]
      cases t with
      | nil =>
        have hend : ends a = false := by
          have := last_ends (pre := pre) g2
          rw [← g1, h3] at this
          unfold ends
          cases hb : (TL.tl a).getLast? == some 59 with
          | false => rfl
          | true => exact absurd (eq_of_beq hb) this
        rw [wri_some g4, tail_good (by rw [List.length_map]; exact c2.mpr rfl) hend (prog_prd 4 _ _ _ g4)]
        cases okB (cn 6 d 0) <;> rfl
      | cons u t =>
        rw [wri_rest g4 (fun z => nomatch z), tail_rest (by rw [List.length_map]; exact fun z => nomatch c2.mp z)]
  | _ => unfold d_l_due; rfl
theorem wri_sz {x v : D} (h : wri x = some v) : Sz 848 9 v := by
  cases x with
  | str a =>
    cases hp : progP 4 (TL.tl a) with
    | none => rw [wri_none hp] at h; cases h
    | some z =>
      obtain ⟨v', r⟩ := z
      cases r with
      | cons c r => rw [wri_rest hp (fun z => nomatch z)] at h; cases h
      | nil =>
        rw [wri_some hp] at h
        obtain ⟨c, t, e1, _, e3⟩ := size_ok 4 6 6 0 v' rfl (by decide) (by decide) (prog_prd 4 _ _ _ hp)
        rw [e1] at h
        by_cases ho : okB (some ((c : Int), (t : Int))) = true
        · rw [if_pos ho] at h
          cases h
          simp only [okB, Bool.and_eq_true, decide_eq_true_eq] at ho
          exact e3.up (by omega) (by decide)
        · rw [if_neg ho] at h; cases h
  | _ => cases h
theorem text_sz : Sz 3000 12 (.tup [.str tText, .non]) := by
  have h1 : Sz 4 0 (.str tText) := Sz.str (by decide +kernel) (by decide +kernel)
  have h2 : Sz 4 0 .non := Sz.non
  refine (Sz.tup (.cons h1.pt (.cons h2.pt .nil)) (Nat.le_refl _)).up ?_ (by decide)
  rw [bulks_cons, bulks_cons, bulks_nil]
  have := h1.2.1; have := h2.2.1
  omega
theorem due_sz {x : D} (h : TU x) : ∃ y : D, d_l_due x = PL.ret y ∧ Sz 3000 12 y ∧ d_l_heard (cl (d_read_program x)) = PL.ret y := by
  rw [due_eq h, read_eq h.t]
  cases hw : wri x with
  | none => exact ⟨_, rfl, text_sz, heard_txt .non⟩
  | some v =>
    have h1 := wri_sz hw
    refine ⟨_, rfl, (Sz.lst (k := 9) (.cons h1.pt .nil) (Nat.le_refl _)).up ?_ (by decide), heard_ret v⟩
    rw [bulks_cons, bulks_nil]
    have := h1.2.1
    omega
end Q82

namespace Q82
open PySem PySem.Spec L2 PL
/-! ### lengths -/
def lens (ss : List Str) : Nat := (ss.map (·.length)).sum
theorem lens_cons (s : Str) (ss : List Str) : lens (s :: ss) = s.length + lens ss := by simp [lens]
theorem lens_app (a b : List Str) : lens (a ++ b) = lens a + lens b := by simp [lens]
theorem lens_le {B : Nat} {ss : List Str} (h : ∀ s ∈ ss, s.length ≤ B) : lens ss ≤ ss.length * B := StrLaws.sumLen_le ss h
theorem spl_sum (S : List Nat) : ∀ (k : Nat) (acc l : List Nat), ((TL.spl S k acc l).map List.length).sum ≤ acc.length + l.length ∧ (TL.spl S k acc l).length ≤ l.length + 1
  | k, acc, [] => by rw [TL.spl_nil]; simp
  | 0, acc, c :: r => by
    cases h : TL.pre S (c :: r) with
    | true =>
      rw [TL.spl_hit h]
      have ih := spl_sum S (S.length - 1) [] r
      simp only [List.map_cons, List.sum_cons, List.length_cons, List.length_nil] at ih ⊢
      omega
    | false =>
      rw [TL.spl_miss h]
      have ih := spl_sum S 0 (acc ++ [c]) r
      simp only [List.length_append, List.length_cons, List.length_nil] at ih ⊢
      omega
  | k + 1, acc, c :: r => by
    have ih := spl_sum S k acc r
    show ((TL.spl S k acc r).map List.length).sum ≤ _ ∧ (TL.spl S k acc r).length ≤ _
    simp only [List.length_cons]
    omega
theorem split_sum {a b : Str} (hy : TL.tl b ≠ []) (hk : b.cps.all (· < 256) = true) : lens (Txt.split a b) ≤ a.length ∧ (Txt.split a b).length ≤ a.length + 1 := by
  have e := TL.split_spl a b hy (TL.kind_ok hk)
  have h := spl_sum (TL.tl b) 0 [] (TL.tl a)
  have e2 : ((TL.spl (TL.tl b) 0 [] (TL.tl a)).map List.length).sum = lens (Txt.split a b) := by
    rw [← e, List.map_map]
    exact congrArg List.sum (List.map_congr_left fun s _ => (TL.len_tl s).symm)
  rw [e2, ← e, List.length_map, ← TL.len_tl, List.length_nil] at h
  omega
theorem lens_take (ss : List Str) (r : Nat) : lens (ss.take r) ≤ lens ss := by
  have e : lens (ss.take r ++ ss.drop r) = lens ss := by rw [List.take_append_drop]
  rw [lens_app] at e
  omega
theorem lens_drop (ss : List Str) (r : Nat) : lens (ss.drop r) ≤ lens ss := by
  have e : lens (ss.take r ++ ss.drop r) = lens ss := by rw [List.take_append_drop]
  rw [lens_app] at e
  omega
theorem txts_map : ∀ ss : List Str, txts (ss.map D.str) = some ss
  | [] => rfl
  | s :: r => by
    show (txts (r.map D.str)).map (s :: ·) = _
    rw [txts_map r]
    all_goals rfl
theorem join_len (sep : Str) (ss : List Str) : (Txt.join sep ss).length ≤ lens ss + ss.length * sep.length := by
  show (Builtin.Str.glued sep ss).length ≤ _
  rw [StrLaws.glued_eq_join]
  exact StrLaws.join_length_le sep ss
theorem join_ret {sep : Str} {ss : List Str} (h : lens ss + ss.length * sep.length ≤ 16000000) : joinD (.str sep) (.lst (ss.map D.str)) = ret (.str (Txt.join sep ss)) := by
  show joinW sep (ss.map D.str) = _
  unfold joinW
  rw [txts_map]
  have := join_len sep ss
  exact grd_pos ⟨by unfold lens at h; omega, by rw [sizeLine_eq]; omega⟩ _
theorem add_str {a b : Str} (h : a.length + b.length ≤ 16000000) : addD (.str a) (.str b) = ret (.str (a ++ b)) := grd_pos (by rw [sizeLine_eq]; omega) _
theorem len_app (a b : Str) : (a ++ b).length = a.length + b.length := Str.length_append a b
/-! ### signs that there are -/
theorem U.app {a b : Str} (h1 : U a) (h2 : U b) : U (a ++ b) := fun k hk => by
  rw [TL.tl_append] at hk
  exact (List.mem_append.mp hk).elim (h1 k) (h2 k)
theorem U.cut {a : Str} (h : U a) (lo hi : Option Int) : U (cutS a lo hi) := fun k hk => by
  unfold cutS at hk
  exact h k (List.mem_of_mem_drop (List.mem_of_mem_take hk))
theorem U.join {sep : Str} {ss : List Str} (h1 : U sep) (h2 : ∀ s ∈ ss, U s) : U (Txt.join sep ss) := fun k hk => by
  have hk : k ∈ (Builtin.Str.glued sep ss).cps.toList := hk
  rw [StrLaws.glued_eq_join] at hk
  rcases (PyProof.Rows.mem_join sep k ss).mp hk with ⟨t, ht, hc⟩ | ⟨_, hc⟩
  · exact h2 t ht k hc
  · exact h1 k hc
theorem U.split {a : Str} (h : U a) : ∀ w ∈ Txt.split a tSp, U w := fun w hw k hk => by
  have e := split_words (TL.tl a)
  rw [mkS_tl] at e
  rw [e] at hw
  exact h k (mem_words hw k hk)
theorem U.of (s : String) : U (Str.ofString s) := fun k hk => by
  have hk : k ∈ (Str.ofString s).cps.toList := hk
  rw [PyProof.Rows.signs_ofString] at hk
  obtain ⟨c, _, rfl⟩ := List.mem_map.mp hk
  have := c.valid
  show c.val.toNat < _
  rcases this with h | h
  · exact Nat.lt_trans h (by decide)
  · exact h.2
theorem shifted_lt : ∀ {l : List (Nat × Nat × Nat)} {c t : Nat}, (l.all fun p => decide (p.2.2 + (p.2.1 - p.1) < 1114112)) = true → Unicode.shifted l c = some t → t < 1114112
  | [], _, _, _, h => nomatch h
  | (a, b, u) :: r, c, t, hl, h => by
    rw [List.all_cons, Bool.and_eq_true] at hl
    have h1 := of_decide_eq_true hl.1
    unfold Unicode.shifted at h
    split at h
    · cases h
    · split at h
      · cases h
        have h1 : u + (b - a) < 1114112 := h1
        omega
      · exact shifted_lt hl.2 h
theorem upper_lt {c : Nat} (h : c < 1114112) : ∀ k ∈ Unicode.upperOf c, k < 1114112 := by
  unfold Unicode.upperOf Unicode.image
  split
  · rename_i cs hl
    have h1 : (UnicodeData.severalUpper.all fun q => q.2.all fun k => decide (k < 1114112)) = true := by decide +kernel
    have h2 := StrLaws.lookup_all (p := fun l => l.all fun k => decide (k < 1114112)) _ c cs h1 hl
    exact fun k hk => of_decide_eq_true (List.all_eq_true.mp h2 k hk)
  · intro k hk
    rw [List.mem_singleton.mp hk]
    have h1 : (UnicodeData.oneUpper.all fun p => decide (p.2.2 + (p.2.1 - p.1) < 1114112)) = true := by decide +kernel
    cases e : Unicode.shifted UnicodeData.oneUpper c with
    | none => exact h
    | some t => exact shifted_lt h1 e
theorem U.upper {a : Str} (h : U a) : U (Txt.upper a) := fun k hk => by
  have hk : k ∈ ((a.cps.mapIdx fun i c => (Unicode.upperOf c).toArray).flatten).toList := hk
  rw [Array.toList_flatten] at hk
  obtain ⟨l, hl, hkl⟩ := List.mem_flatten.mp hk
  obtain ⟨ar, har, rfl⟩ := List.mem_map.mp hl
  rw [Array.toList_mapIdx] at har
  obtain ⟨i, hi, e⟩ := List.mem_mapIdx.mp har
  rw [← e] at hkl
  have hm : a.cps.toList[i] ∈ a.cps.toList := List.getElem_mem hi
  exact upper_lt (h _ hm) k (by simpa using hkl)
theorem U.word {s : Str} (h : wordB (.str s) = true) : U s := fun k hk => by
  simp only [wordB, Bool.and_eq_true] at h
  have := List.all_eq_true.mp h.2 k hk
  unfold lower at this
  have := of_decide_eq_true this
  omega
/-! ### texts of commands -/
def Tx (B : Nat) (d : D) : Prop := ∃ s : Str, d = .str s ∧ s.length ≤ B ∧ U s
theorem kind_txt {a : Str} (h : kindB a = true) : a.length ≤ 4 ∧ U a := by
  unfold kindB at h
  simp only [Bool.or_eq_true, beq_iff_eq] at h
  rcases h with h | h | h | h <;> rw [← h] <;> exact ⟨by decide +kernel, U.of _⟩
def strT : D → Str
  | .str s => s
  | .int i => Str.ofString (toString i)
  | _ => Str.ofString ""
def Shw (p : D) : Prop := strOfW p = ret (.str (strT p)) ∧ (strT p).length ≤ 62 ∧ U (strT p)
theorem int_txt {i : Int} (h : numB (.int i) = true) : Shw (.int i) := by
  simp only [numB, Bool.and_eq_true, decide_eq_true_eq] at h
  have e61 : (10 : Nat) ^ 61 = 10000000000000000000000000000000000000000000000000000000000000 := by decide
  have h1 := int_text_length_le10 (a := i) (k := 61) (by decide) (by rw [e61]; omega)
  have h2 : (Str.ofString (toString i)).length ≤ 62 := by rw [ofString_length]; exact h1
  refine ⟨grd_pos ⟨?_, by rw [sizeLine_eq]; exact Nat.le_trans h2 (by decide)⟩ _, h2, U.of _⟩
  rcases Nat.eq_zero_or_pos i.natAbs with z | z
  · rw [z]; decide
  · refine (Nat.log2_lt (by omega)).mpr (Nat.lt_of_lt_of_le (show i.natAbs < 2 ^ 64 by omega) (Nat.pow_le_pow_right (by decide) (by decide)))
theorem word_txt {w : D} (h : wordB w = true) : ∃ s : Str, w = .str s ∧ s.length ≤ 8 ∧ U s := by
  cases w with
  | str s =>
    have hu := U.word h
    simp only [wordB, Bool.and_eq_true, decide_eq_true_eq] at h
    exact ⟨s, rfl, by omega, hu⟩
  | _ => simp [wordB] at h
theorem cmd_parts {x : D} (h : cmdB x = true) : ∃ ps : List D, x = .tup ps ∧ ps.length ≤ 3 ∧ ∀ p ∈ ps, Shw p := by
  have st : ∀ (s : Str) (B : Nat), s.length ≤ B ∧ U s → B ≤ 62 → Shw (.str s) := fun s B h1 h2 => ⟨rfl, Nat.le_trans h1.1 h2, h1.2⟩
  unfold cmdB at h
  split at h
  · rename_i a w
    rw [Bool.and_eq_true] at h
    obtain ⟨s, rfl, hs⟩ := word_txt h.1
    refine ⟨_, rfl, Nat.le_of_ble_eq_true rfl, fun p hp => ?_⟩
    simp only [List.mem_cons, List.not_mem_nil, or_false] at hp
    rcases hp with rfl | rfl
    · exact st _ _ (kind_txt h.2) (by decide)
    · exact st _ _ hs (by decide)
  · rename_i a w x
    simp only [Bool.and_eq_true] at h
    obtain ⟨s, rfl, hs⟩ := word_txt h.1.1
    obtain rfl : a = Str.ofString "set" := eq_of_beq h.1.2
    refine ⟨_, rfl, Nat.le_of_ble_eq_true rfl, fun p hp => ?_⟩
    simp only [List.mem_cons, List.not_mem_nil, or_false] at hp
    rcases hp with rfl | rfl | rfl
    · exact st _ 3 ⟨by decide +kernel, U.of _⟩ (by decide)
    · exact st _ _ hs (by decide)
    · cases p with
      | int i => exact int_txt h.2
      | _ => simp [numB] at h
  · cases h
theorem shown_one {x : D} (h : cmdB x = true) : ∃ s : Str, d_l_shown (.lst [x]) = ret (.str s) ∧ s.length ≤ 200 ∧ U s := by
  obtain ⟨ps, rfl, h3, h4⟩ := cmd_parts h
  have k1 : mapP (fun part => strOfW part) ps = ret ((ps.map strT).map .str) := by
    rw [mapP_ret (g := fun p => .str (strT p)) (by omega) (fun p hp => (h4 p hp).1), List.map_map]
    all_goals rfl
  have k2 : (ps.map strT).length = ps.length := List.length_map _
  have k3 : ∀ s ∈ ps.map strT, s.length ≤ 62 := fun s hs => by
    obtain ⟨p, hp, rfl⟩ := List.mem_map.mp hs
    exact (h4 p hp).2.1
  have k4 : ∀ s ∈ ps.map strT, U s := fun s hs => by
    obtain ⟨p, hp, rfl⟩ := List.mem_map.mp hs
    exact (h4 p hp).2.2
  generalize ps.map strT = ss at k1 k2 k3 k4
  have k5 := lens_le k3
  have k6 := join_len tSp ss
  have lsp : tSp.length = 1 := by decide +kernel
  rw [lsp] at k6
  have k7 : lens ss ≤ 3 * 62 := Nat.le_trans k5 (Nat.mul_le_mul_right 62 (by omega))
  have kU : U (Txt.join tSp ss) := U.join (U.of _) k4
  refine ⟨Txt.join tSemi [Txt.join tSp ss], ?_, ?_, U.join (U.of _) fun s hs => by rw [List.mem_singleton.mp hs]; exact kU⟩
  · unfold d_l_shown
    show bnd (ret (1 : Int)) _ = _
    rw [bnd_ret, if_pos (by decide)]
    show bnd (ret [D.tup ps]) _ = _
    rw [bnd_ret]
    have e1 : mapP (fun one => bnd (items one) fun xs1 => bnd (mapP (fun part => strOfW part) xs1) fun xs2 => joinD (.str (Str.ofString " ")) (.lst xs2)) [D.tup ps] = ret [.str (Txt.join tSp ss)] := by
      rw [mapP_ret (g := fun _ => .str (Txt.join tSp ss)) (Nat.le_of_ble_eq_true rfl) (fun z hz => by
        rw [List.mem_singleton.mp hz, items_tup, bnd_ret, k1, bnd_ret]
        exact join_ret (by rw [lsp]; omega))]
      all_goals rfl
    rw [e1, bnd_ret]
    exact join_ret (sep := tSemi) (ss := [Txt.join tSp ss]) (by
      rw [lens_cons, show lens [] = 0 from rfl, List.length_cons, List.length_nil, show tSemi.length = 2 by decide +kernel]
      omega)
  · have := join_len tSemi [Txt.join tSp ss]
    rw [lens_cons, show lens [] = 0 from rfl, List.length_cons, List.length_nil, show tSemi.length = 2 by decide +kernel] at this
    omega
theorem command_gen : Gen (d_l_command (.lst [])) 30 (fun d => cmdB d = true) := by
  unfold d_l_command
  have mk2 : ∀ (a : Str) (y : D), kindB a = true → IsW y → cmdB (.tup [.str a, y]) = true := fun a y h ⟨s, e, hs⟩ => by
    subst e
    show (wordB (.str s) && kindB a) = true
    rw [hs, h]
    rfl
  refine (Gen.bind (c := 10) (d := 20) word_gen fun label hlab => ?_).up (by decide)
  apply Gen.up
  · apply Gen.dr (by decide) (by decide); intro way w0 w1
    rw [neB_nil, show (!([] : List D).isEmpty) = false from rfl, andB0, bnd_ret, if_neg (by decide), bnd_ret]
    refine Gen.cond (c := 12) (d := 10) (fun _ => ?_) fun h3 => ?_
    · refine (Gen.bind (c := 10) (d := 2) word_gen fun y2 ⟨s, e2, hs⟩ => ?_).up (by decide)
      refine (Gen.bind (c := 2) (d := 0) number_gen fun y3 ⟨i, e3, hi⟩ => ?_).up (by decide)
      subst e2 e3
      refine Gen.ret ?_
      show (wordB (.str s) && (Str.ofString "set" == Str.ofString "set") && numB (.int i)) = true
      rw [hs, hi, beq_self_eq_true]
      rfl
    · have h3 := of_decide_eq_false h3
      refine (Gen.cond (c := 10) (d := 0) (fun _ => ?_) fun h4 => ?_).up (by decide)
      · refine (Gen.bind (c := 10) (d := 0) word_gen fun y4 h4 => ?_).up (by decide)
        exact Gen.ret (mk2 _ _ (by decide +kernel) h4)
      · have h4 := of_decide_eq_false h4
        refine Gen.pickL (by omega) (by simp; omega) fun y hy => ?_
        simp only [List.mem_cons, List.not_mem_nil, or_false] at hy
        refine Gen.ret ?_
        rcases hy with rfl | rfl | rfl | rfl | rfl <;> exact mk2 _ _ (by decide +kernel) hlab
  · decide
end Q82

namespace Q82
open PySem PySem.Spec L2 PL
/-! ### programs drawn, with what is left of commands and tries -/
def capB : Nat → Nat
  | 0 => 4
  | 1 => 7
  | 2 => 4
  | _ => 3
def drawsB : Nat → Nat
  | 0 => 150
  | k + 1 => (2 * drawsB k + 5) * capB (k + 1) + 10
def itemC : Nat → Nat
  | 0 => 35
  | k + 1 => 2 * drawsB k + 5
theorem drawsB_eq (k : Nat) : drawsB k = itemC k * capB k + 10 := by cases k <;> rfl
theorem capB_ge (k : Nat) : 3 ≤ capB k := by
  match k with
  | 0 => decide
  | 1 => decide
  | 2 => decide
  | k + 3 => exact Nat.le_of_ble_eq_true rfl
theorem drawsB_ge : ∀ k : Nat, 150 ≤ drawsB k
  | 0 => Nat.le_refl _
  | k + 1 => by
    have h := drawsB_ge k
    have := Nat.mul_le_mul_left (2 * drawsB k + 5) (capB_ge (k + 1))
    show 150 ≤ (2 * drawsB k + 5) * capB (k + 1) + 10
    omega
theorem itemC_ge (k : Nat) : 35 ≤ itemC k := by
  cases k with
  | zero => exact Nat.le_refl _
  | succ k =>
    have h := drawsB_ge k
    show 35 ≤ 2 * drawsB k + 5
    omega
theorem range_at {k : Nat} {d : Int} (hd : d = 3 - k) (hk : k ≤ 3) : ixD (.lst [(.int 4), (.int 5), (.int 8), (.int 5)]) (.int d) = ret (.int ((capB k : Int) + 1)) := by
  subst hd
  match k, hk with
  | 0, _ => rfl
  | 1, _ => rfl
  | 2, _ => rfl
  | 3, _ => rfl
  | k + 4, h => omega
theorem cnR_snoc (rec : D → Option (Int × Int)) (deep : Bool) (v : D) : ∀ (xs : List D) (j : Int × Int), cnR rec deep (xs ++ [v]) j = match cnR rec deep xs j with
    | none => none
    | some j' => cnI rec deep v j'
  | [], j => by
    show (match cnI rec deep v j with | none => none | some j' => cnR rec deep [] j') = cnI rec deep v j
    cases cnI rec deep v j <;> rfl
  | x :: xs, j => by
    show (match cnI rec deep x j with | none => none | some j' => cnR rec deep (xs ++ [v]) j') = (match (match cnI rec deep x j with | none => none | some j' => cnR rec deep xs j') with | none => none | some j' => cnI rec deep v j')
    cases cnI rec deep x j with
    | none => rfl
    | some j' => exact cnR_snoc rec deep v xs j'
theorem cnI_cm {x : D} (hx : cmdB x = true) (rec : D → Option (Int × Int)) (deep : Bool) (j : Int × Int) : cnI rec deep x j = some (j.1 + 1, j.2) := by
  unfold cnI
  rw [if_pos hx]
theorem cnI_try {b1 b2 : D} {rec : D → Option (Int × Int)} {p1 p2 : Int × Int} (e1 : rec b1 = some p1) (e2 : rec b2 = some p2) (j : Int × Int) : cnI rec false (tryD b1 b2) j = some (j.1 + p1.1 + p2.1, j.2 + p1.2 + p2.2 + 1) := by
  unfold cnI
  rw [tryD_cmdB, if_neg (by decide), tryD_tryP]
  simp only [Bool.false_eq_true, if_false, e1, e2]
def GoR (k i : Nat) (d x0 y0 : Int) (o : PL.Step (List D) D) (x y : Int) : Prop := ∃ j', o = .go j' ∧ (j'.length ≤ i + 1 ∧ (∀ x ∈ j', ItD (PrD k) x) ∧ 0 ≤ x ∧ 0 ≤ y ∧ cnR (fun z => cn k z (d + 1)) (decide (2 < d)) j' (0, 0) = some (x0 - x, y0 - y))
theorem block_gen (a : Addr) : ∀ (n k : Nat) (d x0 y0 : Int), d = 3 - k → k ≤ 3 → k < n → 0 ≤ x0 → 0 ≤ y0 → GenR a (m_l_program n [.pen, .o a, .d (.int d)]) (drawsB k) x0 y0 (fun b x y => PrD (k + 1) b ∧ 0 ≤ x ∧ 0 ≤ y ∧ cn (k + 1) b d = some (x0 - x, y0 - y))
  | 0, _, _, _, _, _, _, h2, _, _ => by omega
  | n + 1, k, d, x0, y0, hd, hk3, h2, hx0, hy0 => by
    show GenR a (d_l_program (m_l_program n) a d) _ _ _ _
    unfold d_l_program
    simp only [bnd_bnd]
    have hic := itemC_ge k
    have hcap : capB k ≤ 7 := by
      match k with
      | 0 => decide
      | 1 => decide
      | 2 => decide
      | k + 3 => exact Nat.le_of_ble_eq_true rfl
    rw [range_at hd hk3, bnd_ret, intI_i, bnd_ret]
    refine (GenR.dr (c := drawsB k - 1) (by omega) (by omega) fun r q0 q1 => ?_).up (by rw [drawsB_eq]; omega)
    rw [rngI_ret (by omega), bnd_ret]
    refine (GenR.forI (c := itemC k) (d := 0) (N := capB k) (i := 0) (I := fun i j x y => j.length ≤ i ∧ (∀ x ∈ j, ItD (PrD k) x) ∧ 0 ≤ x ∧ 0 ≤ y ∧ cnR (fun z => cn k z (d + 1)) (decide (2 < d)) j (0, 0) = some (x0 - x, y0 - y)) (by rw [rngZ_len]; omega) (fun _ _ i j x y hi ⟨j1, j2, j3, j4, j5⟩ => ?_) (fun i j x y hi ⟨j1, j2, j3, j4, j5⟩ => ?_) ⟨Nat.zero_le _, fun x q => absurd q List.not_mem_nil, hx0, hy0, by
      show some ((0 : Int), (0 : Int)) = _
      rw [Int.sub_self, Int.sub_self]⟩).up (by
      rw [rngZ_len, drawsB_eq]
      have h4 : r.toNat ≤ capB k := by omega
      have := Nat.mul_le_mul_left (itemC k) h4
      omega)
    · have add : ∀ v x' y', ItD (PrD k) v → 0 ≤ x' → 0 ≤ y' → cnI (fun z => cn k z (d + 1)) (decide (2 < d)) v (x0 - x, y0 - y) = some (x0 - x', y0 - y') → GenR a (roomL j (ret (.go (j ++ [v]))) : W (PL.Step (List D) D)) 0 x' y' (GoR k i d x0 y0) := fun v x' y' hv p q ec =>
        GenR.room (by omega) (GenR.ret ⟨_, rfl, by rw [List.length_append]; simp; omega, fun x hx => (List.mem_append.mp hx).elim (j2 x) fun q => by rw [List.mem_singleton.mp q]; exact hv, p, q, by rw [cnR_snoc, j5]; exact ec⟩)
      have tail : ∀ {y1 : Int}, y1 = y → GenR a (bnd (ixOb a (.int 0)) fun y5 => bnd (intI y5) fun i3 => bnd (ret (decide (0 < i3))) fun kk => if kk = true then
          bnd (ixOb a (.int 0)) fun y6 => bnd (intI y6) fun i4 => bnd (stOb a (.int 0) (.int (i4 - 1))) fun _ =>
          bnd (d_l_command (.lst [])) fun app1 => roomL j (ret (.go (j ++ [app1])))
          else ret (.go j)) 30 x y1 (GoR k i d x0 y0) := fun {y1} ey => by
        subst ey
        refine (GenR.bind (d := 30) GenR.ix0 fun y4 x' y' ⟨e, e1, e2⟩ => ?_).up (by decide)
        subst e e1 e2
        rw [iI, bnd_ret, bnd_ret]
        refine (GenR.cond (c := 30) (d := 0) (fun hpos => ?_) fun _ => GenR.ret ⟨j, rfl, by omega, j2, j3, j4, j5⟩).up (by decide)
        have hpos := of_decide_eq_true hpos
        refine (GenR.bind (d := 30) GenR.ix0 fun y5 x2 y2 ⟨e, e1, e2⟩ => ?_).up (by decide)
        subst e e1 e2
        rw [iI, bnd_ret]
        refine (GenR.bind (d := 30) (GenR.st0 _) fun _ x3 y3 ⟨e1, e2⟩ => ?_).up (by decide)
        subst e1 e2
        refine (GenR.bind (d := 0) command_gen.r fun a1 x4 y4 ⟨ha, e1, e2⟩ => ?_).up (by decide)
        subst e1 e2
        exact add a1 _ _ (.inl ha) (by omega) j4 (by rw [cnI_cm ha]; congr 2; show x0 - _ + 1 = x0 - (_ - 1); omega)
      cases k with
      | zero =>
        have e : decide (d < 3) = false := by rw [decide_eq_false_iff_not]; omega
        rw [e, andB_f, bnd_ret, if_neg (by decide)]
        exact (tail rfl).up (by decide)
      | succ k =>
        have e : decide (d < 3) = true := by rw [decide_eq_true_iff]; omega
        have edd : decide (2 < d) = false := by rw [decide_eq_false_iff_not]; omega
        have ih := fun x0 y0 => block_gen a n k (d + 1) x0 y0 (by omega) (by omega) (by omega)
        have hic : 35 ≤ 2 * drawsB k + 5 := hic
        rw [e, andB_t]
        have tst : GenR a (andB (bnd (ixOb a (.int 1)) fun y => bnd (intI y) fun i => ret (decide (0 < i))) (bnd (drw 3) fun r1 => ret (decide (r1 = 0)))) 1 x y (fun kk x' y' => (kk = true → 0 < y) ∧ x' = x ∧ y' = y) := by
          unfold andB
          simp only [bnd_bnd]
          refine (GenR.bind (d := 1) GenR.ix1 fun y1 x' y' ⟨e, e1, e2⟩ => ?_).up (by decide)
          subst e e1 e2
          rw [iI, bnd_ret, bnd_ret]
          refine (GenR.cond (c := 1) (d := 0) (fun hp => ?_) fun _ => GenR.ret ⟨(fun z => by cases z), rfl, rfl⟩).up (by decide)
          exact GenR.dr (c := 0) (by decide) (by decide) fun _ _ _ => GenR.ret ⟨fun _ => of_decide_eq_true hp, rfl, rfl⟩
        refine (GenR.bind (d := 2 * drawsB k + 4) tst fun kk x' y' ⟨hkk, e1, e2⟩ => ?_).up (show 1 + (2 * drawsB k + 4) ≤ 2 * drawsB k + 5 by omega)
        subst e1 e2
        refine (GenR.cond (c := 2 * drawsB k + 4) (d := 30) (fun hk => ?_) fun _ => tail rfl).up (Nat.max_le.mpr ⟨Nat.le_refl _, by omega⟩)
        have hy := hkk hk
        refine (GenR.bind (d := 2 * drawsB k) GenR.ix1 fun y1 x2 y2 ⟨e, e1, e2⟩ => ?_).up (by omega)
        subst e e1 e2
        rw [iI, bnd_ret]
        refine (GenR.bind (d := 2 * drawsB k) (GenR.st1 _) fun _ x3 y3 ⟨e1, e2⟩ => ?_).up (by omega)
        subst e1 e2
        refine (GenR.bind (d := drawsB k) (ih _ _ j3 (by omega)) fun b1 x4 y4 ⟨h1, p1, p2, p3⟩ => ?_).up (by omega)
        refine (GenR.bind (d := 0) (ih _ _ p1 p2) fun b2 x5 y5 ⟨h2, q1, q2, q3⟩ => ?_).up (by omega)
        rw [bnd_ret]
        refine add (tryD b1 b2) _ _ (.inr ⟨b1, b2, rfl, h1, h2⟩) q1 q2 ?_
        rw [edd]
        refine (cnI_try (rec := fun z => cn (k + 1) z (d + 1)) p3 q3 _).trans ?_
        simp only [Option.some.injEq, Prod.mk.injEq]
        exact ⟨by omega, by omega⟩
    · exact GenR.ret ⟨⟨j, rfl, j2⟩, j3, j4, j5⟩
end Q82

namespace Q82
open PySem PySem.Spec L2 PL
/-! ### texts of programs -/
def ptBody (recF : List SV → W D) (one : D) (j : List D) : W (Step (List D) D) :=
    bnd (bnd (ixD one (.int 0)) fun y => eqB y (.str (Str.ofString "try"))) fun kk => if kk = true then
    bnd (bnd (ixD one (.int 1)) fun y1 => bnd (cl (recF [.d y1])) fun y2 => bnd (addD (.str (Str.ofString "{ ")) y2) fun c => bnd (addD c (.str (Str.ofString " }"))) fun c1 => bnd (ixD one (.int 2)) fun y3 => bnd (cl (recF [.d y3])) fun y4 => bnd (addD (.str (Str.ofString "{ ")) y4) fun c2 => bnd (addD c2 (.str (Str.ofString " }"))) fun c3 => ret [c1, c3]) fun blocks =>
    bnd (bnd (joinD (.str (Str.ofString " else ")) (.lst blocks)) fun j1 => addD (.str (Str.ofString "try ")) j1) fun app => roomL j (
    ret (.go (j ++ [app])))
    else
    bnd (cl (d_l_shown (.lst [one]))) fun app1 => roomL j (
    ret (.go (j ++ [app1])))
def ptEnd (j2 : List D) : W D := bnd (neB (.lst j2) (.lst [])) fun k1 => if k1 = true then joinD (.str (Str.ofString "; ")) (.lst j2) else ret (.str (Str.ofString "-"))
theorem ptBody_cmd {recF : List SV → W D} {x : D} (h : cmdB x = true) {acc : List Str} (ha : acc.length < 1000000) : ∃ s : Str, s.length ≤ 200 ∧ U s ∧ ptBody recF x (acc.map .str) = ret (.go ((acc ++ [s]).map .str)) := by
  obtain ⟨s, e, h1, h2⟩ := shown_one h
  obtain ⟨a, r, rfl, hn⟩ := head_no_try h
  refine ⟨s, h1, h2, ?_⟩
  unfold ptBody
  rw [iT0, bnd_ret, eqB_str, bnd_ret, hn, if_neg (by decide), e, cl_ret, bnd_ret, room_pos (by rw [List.length_map]; exact ha), List.map_append]
  all_goals rfl
theorem ptBody_try {recF : List SV → W D} {a b : D} {s1 s2 : Str} {n1 n2 : Nat} (h1 : recF [.d a] = ret (.str s1)) (h2 : recF [.d b] = ret (.str s2)) (l1 : s1.length ≤ n1) (l2 : s2.length ≤ n2) (u1 : U s1) (u2 : U s2) (hn : n1 + n2 ≤ 1000000) {acc : List Str} (ha : acc.length < 1000000) :
    ∃ s : Str, s.length ≤ n1 + n2 + 24 ∧ U s ∧ ptBody recF (tryD a b) (acc.map .str) = ret (.go ((acc ++ [s]).map .str)) := by
  have k1 : (Str.ofString "{ ").length = 2 := by decide +kernel
  have k2 : (Str.ofString " }").length = 2 := by decide +kernel
  have k3 : (Str.ofString " else ").length = 6 := by decide +kernel
  have k4 : (Str.ofString "try ").length = 4 := by decide +kernel
  have hj := join_len (Str.ofString " else ") [Str.ofString "{ " ++ s1 ++ Str.ofString " }", Str.ofString "{ " ++ s2 ++ Str.ofString " }"]
  have hl : lens [Str.ofString "{ " ++ s1 ++ Str.ofString " }", Str.ofString "{ " ++ s2 ++ Str.ofString " }"] = s1.length + s2.length + 8 := by
    rw [lens_cons, lens_cons, show lens [] = 0 from rfl, len_app, len_app, len_app, len_app, k1, k2]
    omega
  rw [hl, k3, show ([Str.ofString "{ " ++ s1 ++ Str.ofString " }", Str.ofString "{ " ++ s2 ++ Str.ofString " }"] : List Str).length = 2 from rfl] at hj
  refine ⟨Str.ofString "try " ++ Txt.join (Str.ofString " else ") [Str.ofString "{ " ++ s1 ++ Str.ofString " }", Str.ofString "{ " ++ s2 ++ Str.ofString " }"], by rw [len_app, k4]; omega, (U.of _).app (U.join (U.of _) fun s hs => ?_), ?_⟩
  · simp only [List.mem_cons, List.not_mem_nil, or_false] at hs
    rcases hs with rfl | rfl
    · exact ((U.of _).app u1).app (U.of _)
    · exact ((U.of _).app u2).app (U.of _)
  unfold ptBody tryD
  rw [iT0, bnd_ret, eqB_str, beq_self_eq_true, bnd_ret, if_pos rfl, iT1, bnd_ret, h1, cl_ret, bnd_ret, add_str (by omega), bnd_ret, add_str (by rw [len_app]; omega), bnd_ret, ix2, bnd_ret, h2, cl_ret, bnd_ret, add_str (by omega), bnd_ret, add_str (by rw [len_app]; omega), bnd_ret, bnd_ret]
  have ej := join_ret (sep := Str.ofString " else ") (ss := [Str.ofString "{ " ++ s1 ++ Str.ofString " }", Str.ofString "{ " ++ s2 ++ Str.ofString " }"]) (by rw [hl, k3]; show _ + 2 * 6 ≤ _; omega)
  rw [show joinD (.str (Str.ofString " else ")) (.lst [.str (Str.ofString "{ " ++ s1 ++ Str.ofString " }"), .str (Str.ofString "{ " ++ s2 ++ Str.ofString " }")]) = _ from ej, bnd_ret, add_str (by omega), bnd_ret, room_pos (by rw [List.length_map]; exact ha), List.map_append]
  all_goals rfl
def TxtP (n m : Nat) (d : Int) (a : D) : Prop := ∃ c t : Nat, cn n a d = some ((c : Int), (t : Int)) ∧ (41 * c + 7 * t ≤ 100000 → ∃ s : Str, m_l_program_text m [.d a] = ret (.str s) ∧ s.length ≤ 210 * c + 40 * t + 1 ∧ U s)
theorem text_run {k n m : Nat} {d : Int} (hd : 0 < k → d ≤ 2) (IH : ∀ a, PrD k a → TxtP n m (d + 1) a) (K : List D → W D) :
    ∀ (xs : List D) (j : Int × Int) (acc : List Str), (∀ x ∈ xs, ItD (PrD k) x) → ∃ c t : Nat, cnR (fun x => cn n x (d + 1)) (decide (2 < d)) xs j = some (j.1 + c, j.2 + t) ∧ (41 * c + 7 * t ≤ 100000 → acc.length + xs.length ≤ 500000 → ∃ ss : List Str, forT (ptBody (m_l_program_text m)) K xs (acc.map .str) = K ((acc ++ ss).map .str) ∧ lens ss + 2 * ss.length ≤ 210 * c + 40 * t ∧ (∀ s ∈ ss, U s))
  | [], j, acc, _ => ⟨0, 0, by
      show some j = some (j.1 + ((0 : Nat) : Int), j.2 + ((0 : Nat) : Int))
      rw [show ((0 : Nat) : Int) = 0 from rfl, Int.add_zero, Int.add_zero], fun _ _ => ⟨[], by rw [List.append_nil]; rfl, Nat.zero_le _, fun _ h => nomatch h⟩⟩
  | x :: xs, j, acc, h => by
    rcases h x List.mem_cons_self with hc | ⟨a, b, rfl, h1, h2⟩
    · obtain ⟨c, t, g1, g2⟩ := text_run hd IH K xs (j.1 + 1, j.2) acc fun y hy => h y (List.mem_cons_of_mem _ hy)
      refine ⟨c + 1, t, ?_, fun hb hl => ?_⟩
      · unfold cnR cnI
        rw [if_pos hc]
        show cnR _ _ xs (j.1 + 1, j.2) = _
        rw [g1]
        show some (j.1 + 1 + (c : Int), j.2 + (t : Int)) = some (j.1 + ((c + 1 : Nat) : Int), j.2 + (t : Int))
        rw [show j.1 + 1 + (c : Int) = j.1 + ((c + 1 : Nat) : Int) by omega]
      · rw [List.length_cons] at hl
        obtain ⟨s, s1, s2, s3⟩ := ptBody_cmd (recF := m_l_program_text m) hc (acc := acc) (by omega)
        obtain ⟨c', t', g1', g2⟩ := text_run hd IH K xs (j.1 + 1, j.2) (acc ++ [s]) fun y hy => h y (List.mem_cons_of_mem _ hy)
        rw [g1] at g1'
        simp only [Option.some.injEq, Prod.mk.injEq] at g1'
        obtain rfl : c = c' := by omega
        obtain rfl : t = t' := by omega
        obtain ⟨ss, w1, w2, w3⟩ := g2 (by omega) (by rw [List.length_append, List.length_cons, List.length_nil]; omega)
        refine ⟨s :: ss, ?_, ?_, fun z hz => (List.mem_cons.mp hz).elim (fun e => e ▸ s2) (w3 z)⟩
        · unfold forT
          rw [s3, bnd_ret]
          show forT _ _ xs ((acc ++ [s]).map D.str) = _
          rw [w1, List.append_assoc]
          all_goals rfl
        · rw [lens_cons, List.length_cons]
          omega
    · obtain ⟨c1, t1, p1, p2⟩ := IH a h1
      obtain ⟨c2, t2, q1, q2⟩ := IH b h2
      have hk : 0 < k := by cases k with | zero => exact h1.elim | succ k => exact Nat.succ_pos k
      have hd := hd hk
      obtain ⟨c, t, g1, g2⟩ := text_run (fun _ => hd) IH K xs (j.1 + c1 + c2, j.2 + 1 + t1 + t2) acc fun y hy => h y (List.mem_cons_of_mem _ hy)
      refine ⟨c1 + c2 + c, t1 + t2 + 1 + t, ?_, fun hb hl => ?_⟩
      · unfold cnR cnI
        rw [if_neg (by rw [tryD_cmdB]; decide), tryD_tryP]
        have e2 : decide (2 < d) = false := decide_eq_false (by omega)
        simp only [e2, Bool.false_eq_true, if_false, p1, q1] at g1 ⊢
        rw [show j.2 + (t1 : Int) + (t2 : Int) + 1 = j.2 + 1 + (t1 : Int) + (t2 : Int) by omega, g1]
        simp only [Option.some.injEq, Prod.mk.injEq]
        exact ⟨by omega, by omega⟩
      · rw [List.length_cons] at hl
        obtain ⟨z1, a1, a2, a3⟩ := p2 (by omega)
        obtain ⟨z2, b1, b2, b3⟩ := q2 (by omega)
        obtain ⟨s, s1, s2, s3⟩ := ptBody_try (recF := m_l_program_text m) a1 b1 a2 b2 a3 b3 (by omega) (acc := acc) (by omega)
        obtain ⟨c', t', g1', g2⟩ := text_run (fun _ => hd) IH K xs (j.1 + c1 + c2, j.2 + 1 + t1 + t2) (acc ++ [s]) fun y hy => h y (List.mem_cons_of_mem _ hy)
        rw [g1] at g1'
        simp only [Option.some.injEq, Prod.mk.injEq] at g1'
        obtain rfl : c = c' := by omega
        obtain rfl : t = t' := by omega
        obtain ⟨ss, w1, w2, w3⟩ := g2 (by omega) (by rw [List.length_append, List.length_cons, List.length_nil]; omega)
        refine ⟨s :: ss, ?_, ?_, fun z hz => (List.mem_cons.mp hz).elim (fun e => e ▸ s2) (w3 z)⟩
        · unfold forT
          rw [s3, bnd_ret]
          show forT _ _ xs ((acc ++ [s]).map D.str) = _
          rw [w1, List.append_assoc]
          all_goals rfl
        · rw [lens_cons, List.length_cons]
          omega
theorem text_ok : ∀ (k n m : Nat) (d : Int) (v : D), d = 4 - k → k ≤ n → k ≤ m → PrD k v → TxtP n m d v
  | 0, _, _, _, _, _, _, _, h => h.elim
  | k + 1, 0, _, _, _, _, h, _, _ => by omega
  | k + 1, _, 0, _, _, _, _, h, _ => by omega
  | k + 1, n + 1, m + 1, d, v, hd, hn, hm, h => by
    obtain ⟨c', t', e', _, hz⟩ := size_ok (k + 1) (n + 1) (m + 1) d v hd hn hm h
    obtain ⟨xs, rfl, hx⟩ := h
    have hlen := hz.len_tup
    obtain ⟨c, t, g1, g2⟩ := text_run (k := k) (n := n) (m := m) (d := d) (fun h => by omega) (fun a ha => text_ok k n m (d + 1) a (by omega) (by omega) (by omega) ha) ptEnd xs (0, 0) [] hx
    have ec : cn (n + 1) (.tup xs) d = some ((c : Int), (t : Int)) := by
      show cnR (fun x => cn n x (d + 1)) (decide (2 < d)) xs (0, 0) = _
      rw [g1]
      show some (0 + (c : Int), 0 + (t : Int)) = _
      rw [Int.zero_add, Int.zero_add]
    rw [ec] at e'
    simp only [Option.some.injEq, Prod.mk.injEq] at e'
    obtain rfl : c = c' := by omega
    obtain rfl : t = t' := by omega
    refine ⟨c, t, ec, fun hb => ?_⟩
    obtain ⟨ss, w1, w2, w3⟩ := g2 hb (by rw [List.length_nil]; omega)
    rw [List.nil_append] at w1
    have et : m_l_program_text (m + 1) [.d (.tup xs)] = ptEnd (ss.map .str) := by
      show d_l_program_text (m_l_program_text m) (.tup xs) = _
      unfold d_l_program_text
      rw [items_tup, bnd_ret]
      exact w1
    rw [et]
    unfold ptEnd
    rw [neB_nil, bnd_ret]
    cases hss : ss with
    | nil =>
      refine ⟨Str.ofString "-", rfl, ?_, U.of _⟩
      rw [show (Str.ofString "-").length = 1 by decide +kernel]
      omega
    | cons s ss' =>
      rw [← hss]
      have hj := join_len tSemi ss
      have lse : tSemi.length = 2 := by decide +kernel
      rw [lse] at hj
      refine ⟨Txt.join tSemi ss, ?_, by omega, U.join (U.of _) w3⟩
      rw [show (!(ss.map D.str).isEmpty) = true by rw [hss]; rfl, if_pos rfl]
      exact join_ret (sep := tSemi) (by rw [lse]; omega)
/-! ### texts bent -/
def Tb (n : Nat) (x : D) : Prop := ∀ a, x = .str a → a.length ≤ n ∧ U a
theorem Tb.st {n : Nat} {s : Str} (h : s.length ≤ n) (hu : U s) : Tb n (.str s) := fun a e => by cases e; exact ⟨h, hu⟩
theorem Tb.up {n m : Nat} {x : D} (h : Tb n x) (hm : n ≤ m) : Tb m x := fun a e => ⟨Nat.le_trans (h a e).1 hm, (h a e).2⟩
theorem sign_lt {k : Nat} (h : k ∈ (Str.ofString " ;-0a:={}\n9zA").cps.toList) : k < 1114112 := U.of " ;-0a:={}\n9zA" k h
theorem sp_ok : TL.tl tSp ≠ [] ∧ tSp.cps.all (· < 256) = true := ⟨by decide +kernel, by decide +kernel⟩
theorem map_cut_take (ss : List Str) (r : Nat) : cutD (ss.map D.str) none (some (r : Int)) = (ss.take r).map D.str := by rw [cut_take, List.map_take]
theorem map_cut_drop (ss : List Str) (r : Nat) : cutD (ss.map D.str) (some (r : Int)) none = (ss.drop r).map D.str := by rw [cut_drop, List.map_drop]
theorem bent_gen {a : Str} {n : Nat} (h : a.length ≤ n) (hu : U a) (hn : n ≤ 100000) : Gen (d_l_bent_text (.str a)) 4 (Tb (4 * n + 60)) := by
  unfold d_l_bent_text
  have la : ∀ lo hi, (cutS a lo hi).length ≤ n := fun lo hi => Nat.le_trans (cut_le ..) h
  have hs := split_sum (a := a) sp_ok.1 sp_ok.2
  have hne := split_ne a tSp
  have hus := U.split hu
  show Gen (bnd (bnd (ret ((a.length : Nat) : Int)) _) _) _ _
  rw [bnd_ret]
  refine (Gen.dr (c := 3) (by omega) (by omega) fun spot s0 s1 => ?_).up (by decide)
  rw [bnd_bnd]
  refine (Gen.dr (c := 2) (by decide) (by decide) fun r1 r0 r2 => ?_).up (by decide)
  obtain ⟨k, hk, ek⟩ := ixSZ (s := Str.ofString " ;-0a:={}\n9zA") r0 (by rw [show (Str.ofString " ;-0a:={}\n9zA").length = 13 by decide +kernel]; omega)
  rw [ek, bnd_ret]
  show Gen (bnd (splitW (.str a) (.str tSp)) _) _ _
  rw [split_ret len_sp (by unfold Big; omega), bnd_ret]
  generalize Txt.split a tSp = ws at hs hne hus
  obtain ⟨hs1, hs2⟩ := hs
  have hpos : 0 < ws.length := by cases ws with | nil => exact absurd rfl hne | cons _ _ => exact Nat.zero_lt_succ _
  rw [List.length_map]
  refine (Gen.dr (c := 1) (by omega) (by omega) fun place p0 p1 => ?_).up (by decide)
  obtain ⟨p, rfl⟩ := Int.eq_ofNat_of_zero_le p0
  have ech : (chD k) = .str ⟨#[k]⟩ := rfl
  have lch : (Str.mk #[k]).length = 1 := rfl
  have ht1 := lens_take ws p
  have ht2 := lens_take ws (p + 1)
  have hd1 := lens_drop ws p
  have hd2 := lens_drop ws (p + 1)
  have lt : ∀ q, (ws.take q).length ≤ ws.length := fun q => by rw [List.length_take]; omega
  have ld : ∀ q, (ws.drop q).length ≤ ws.length := fun q => by rw [List.length_drop]; omega
  have lt1 := lt p
  have lt2 := lt (p + 1)
  have ld1 := ld p
  have ld2 := ld (p + 1)
  have lsp : tSp.length = 1 := by decide +kernel
  have lse : tSemi.length = 2 := by decide +kernel
  have lnl : (Str.ofString "\n").length = 1 := by decide +kernel
  simp only [slD_str, bnd_ret, ech, succ_cast, map_cut_take, map_cut_drop]
  have A : ∀ x y : Str, x.length + y.length ≤ 16000000 → addD (.str x) (.str y) = ret (.str (x ++ y)) := fun x y h => add_str h
  have c1 := la none (some spot)
  have c2 := la (some spot) none
  have c3 := la (some (spot + 1)) none
  rw [A _ _ (by rw [lch]; omega), bnd_ret, A _ _ (by rw [len_app, lch]; omega), bnd_ret, bnd_ret, A _ _ (by rw [len_app, lch]; omega), bnd_ret, A _ _ (by omega), bnd_ret, bnd_ret]
  rw [A a _ (by rw [lch]; omega), bnd_ret, addL_ok (by rw [List.length_map, List.length_map]; omega), bnd_ret, ← List.map_append]
  have j1 : lens (ws.take p ++ ws.drop (p + 1)) + (ws.take p ++ ws.drop (p + 1)).length * tSp.length ≤ 4 * n + 4 := by rw [lens_app, List.length_append, lsp]; omega
  have j2 : lens (ws.take (p + 1) ++ ws.drop p) + (ws.take (p + 1) ++ ws.drop p).length * tSp.length ≤ 4 * n + 4 := by rw [lens_app, List.length_append, lsp]; omega
  rw [join_ret (sep := tSp) (by omega), bnd_ret, addL_ok (Nat.le_of_ble_eq_true rfl), bnd_ret]
  rw [addL_ok (by rw [List.length_map, List.length_map]; omega), bnd_ret, ← List.map_append, join_ret (sep := tSp) (by omega), bnd_ret]
  rw [A a tSemi (by rw [lse]; omega), bnd_ret, A _ a (by rw [len_app, lse]; omega), bnd_ret, A a (Str.ofString "\n") (by rw [lnl]; omega), bnd_ret, A _ a (by rw [len_app, lnl]; omega), bnd_ret, addL_ok (Nat.le_of_ble_eq_true rfl), bnd_ret]
  show Gen (bnd (bnd (grd (a.length ≤ 5592405) (PL.ret (D.str (Txt.upper a)))) _) _) _ _
  rw [grd_pos (by omega), bnd_ret, addL_ok (Nat.le_of_ble_eq_true rfl), bnd_ret, addL_ok (Nat.le_of_ble_eq_true rfl), bnd_ret]
  refine (Gen.dr (c := 0) (by decide) (by decide) fun r3 q0 q1 => ?_).up (by decide)
  refine Gen.pickL0 q0 (by simp; omega) fun y hy => ?_
  have hup := PyProof.Rows.len_upper a
  have g1 := join_len tSp (ws.take p ++ ws.drop (p + 1))
  have g2 := join_len tSp (ws.take (p + 1) ++ ws.drop p)
  simp only [List.cons_append, List.nil_append, List.mem_cons, List.not_mem_nil, or_false] at hy
  have S : ∀ s : Str, s.length ≤ 4 * n + 60 → U s → Tb (4 * n + 60) (.str s) := fun s h u => Tb.st h u
  have uk : U (Str.mk #[k]) := fun z hz => by
    have hz : z ∈ [k] := hz
    rw [List.mem_singleton.mp hz]
    exact sign_lt hk
  have ut : ∀ q, ∀ w ∈ ws.take q, U w := fun q w hw => hus w (List.mem_of_mem_take hw)
  have ud : ∀ q, ∀ w ∈ ws.drop q, U w := fun q w hw => hus w (List.mem_of_mem_drop hw)
  have uj : ∀ p q, U (Txt.join tSp (ws.take p ++ ws.drop q)) := fun p q => U.join (U.of _) fun w hw => (List.mem_append.mp hw).elim (ut p w) (ud q w)
  have lit : ∀ s : String, (Str.ofString s).length ≤ 60 → Tb (4 * n + 60) (.str (Str.ofString s)) := fun s h => S _ (by omega) (U.of s)
  rcases hy with rfl | rfl | rfl | rfl | rfl | rfl | rfl | rfl | rfl | rfl | rfl | rfl | rfl | rfl | rfl | rfl | rfl | rfl | rfl
  · exact S _ (by rw [len_app, len_app, lch]; omega) (((hu.cut _ _).app uk).app (hu.cut _ _))
  · exact S _ (by rw [len_app, len_app, lch]; omega) (((hu.cut _ _).app uk).app (hu.cut _ _))
  · exact S _ (by rw [len_app]; omega) ((hu.cut _ _).app (hu.cut _ _))
  · exact S _ (by omega) (hu.cut _ _)
  · exact S _ (by omega) (hu.cut _ _)
  · exact S _ (by rw [len_app, lch]; omega) (hu.app uk)
  · exact S _ (by omega) (uj _ _)
  · exact S _ (by omega) (uj _ _)
  · exact S _ (by rw [len_app, len_app, lse]; omega) ((hu.app (U.of _)).app hu)
  · exact S _ (by rw [len_app, len_app, lnl]; omega) ((hu.app (U.of _)).app hu)
  · exact S _ (by omega) hu.upper
  · exact fun b e => nomatch e
  · exact fun b e => nomatch e
  · exact fun b e => nomatch e
  · exact lit "" (by decide +kernel)
  · exact lit "-" (by decide +kernel)
  · exact lit "- " (by decide +kernel)
  · exact lit "try { - } else { - }" (by decide +kernel)
  · exact lit "set a 1000000000000000001" (by decide +kernel)
end Q82

namespace Q82
open PySem PySem.Spec L2 PL
/-! ### texts repeated -/
theorem foldl_arr : ∀ (l : List (Array Nat)) (acc : Array Nat), (l.foldl (· ++ ·) acc).toList = acc.toList ++ (l.map Array.toList).flatten
  | [], acc => by simp
  | a :: l, acc => by
    rw [List.foldl_cons, foldl_arr l]
    simp
theorem mul_tl {x : Str} {n : Int} (h : 2 ≤ n) (hx : x.length ≠ 0) : TL.tl (Txt.mul x n) = (List.replicate n.toNat (TL.tl x)).flatten := by
  unfold Txt.mul
  rw [if_neg (by omega), if_neg (by simp; omega)]
  show (List.foldl (· ++ ·) #[] _).toList = _
  rw [foldl_arr, List.map_replicate]
  rfl
theorem flat_len (l : List Nat) : ∀ n : Nat, (List.replicate n l).flatten.length = n * l.length
  | 0 => by simp
  | n + 1 => by rw [List.replicate_succ, List.flatten_cons, List.length_append, flat_len l n, Nat.add_mul, Nat.one_mul, Nat.add_comm]
theorem mul_len {x : Str} {n : Int} (h : 2 ≤ n) (hx : x.length ≠ 0) : (Txt.mul x n).length = n.toNat * x.length := by
  rw [← lz, mul_tl h hx, flat_len, lz]
theorem U.mul {x : Str} {n : Int} (h : 2 ≤ n) (hx : x.length ≠ 0) (hu : U x) : U (Txt.mul x n) := fun k hk => by
  rw [mul_tl h hx] at hk
  obtain ⟨l, hl, hkl⟩ := List.mem_flatten.mp hk
  rw [(List.mem_replicate.mp hl).2] at hkl
  exact hu k hkl
theorem addS_ret {a b : Str} (h : a.length + b.length ≤ 16000000) : addS a b = ret (a ++ b) := grd_pos (by rw [sizeLine_eq]; omega) _
theorem rep_one (x : D) (n : Nat) : repL [x] (n : Int) = List.replicate n x := by
  unfold repL
  rw [Int.toNat_natCast]
  induction n with
  | zero => rfl
  | succ n ih => rw [List.replicate_succ, List.replicate_succ, List.flatten_cons, ih]; rfl
theorem rep_tup (x : D) {n : Nat} (h : 2 ≤ n) (h2 : n ≤ 1000) : repD (.tup [x]) (.int (n : Int)) = ret (.tup (List.replicate n x)) := by
  show grd _ _ = _
  rw [grd_pos ⟨fun z => (nomatch z), by omega, by omega, Nat.le_of_ble_eq_true rfl⟩, rep_one]
  all_goals rfl
/-! ### one turn -/
theorem Tb.u {n : Nat} {x : D} (h : Tb n x) (hn : n ≤ Big) : TU x := fun a e => ⟨Nat.le_trans (h a e).1 hn, (h a e).2⟩
theorem turn_ok {x y : D} (hy : Sz 3000 12 y) (hh : d_l_heard (cl (d_read_program x)) = ret y) {m : W (Step Unit (Step Unit D))} :
    (bnd (bnd (d_l_heard (cl (d_read_program x))) fun told => bnd (reprD told) fun y10 => neB y10 (.str (py y).shown)) fun kk => if kk = true then ret (.out (.out (.bl false))) else m) = m := by
  have e3 := repr_sz hy (by decide) (by decide)
  rw [hh, bnd_ret, e3, bnd_ret, neB_str, beq_self_eq_true, bnd_ret]
  rfl
def deepS : Str := Str.ofString "try { try { try { mark a } else { - } } else { keep a } } else { del b }"
theorem len_deep : deepS.length = 72 := by decide +kernel
def m20 : Str := Txt.mul (Str.ofString "mark a; ") 20
def m19 : Str := Txt.mul (Str.ofString "mark a; ") 19
def k15 : Str := Txt.mul (Str.ofString "try { ") 1500
def e15 : Str := Txt.mul (Str.ofString " } else { - }") 1500
theorem len_m20 : m20.length = 160 := by unfold m20; rw [mul_len (by decide) (by decide +kernel)]; decide +kernel
theorem len_m19 : m19.length = 152 := by unfold m19; rw [mul_len (by decide) (by decide +kernel)]; decide +kernel
theorem len_k15 : k15.length = 9000 := by unfold k15; rw [mul_len (by decide) (by decide +kernel)]; decide +kernel
theorem len_e15 : e15.length = 19500 := by unfold e15; rw [mul_len (by decide) (by decide +kernel)]; decide +kernel
theorem repS_ret {a : Str} {n : Int} (hm : MulOk a n) (h1 : 2 ≤ n) (h2 : n.toNat * a.length ≤ 16000000) (h3 : a.length ≠ 0) : repS a n = ret (Txt.mul a n) := grd_pos ⟨hm, by rw [mul_len h1 h3, sizeLine_eq]; omega⟩ _
/-! ### the last texts -/
theorem blockP_try {rc : PT} {y : List Nat} (h : rc y = none) : blockP rc (tryW ++ y) = none := by
  unfold blockP
  rw [if_neg (show ¬List.take 1 (tryW ++ y) = [45] from (by decide : ¬([116] : List Nat) = [45]))]
  show loopP rc ((tryW ++ y).length + 1) (tryW ++ y) [] = none
  unfold loopP
  have : itemP rc (tryW ++ y) = none := by
    unfold itemP
    rw [if_pos (show List.take 6 (tryW ++ y) = tryW from rfl)]
    show rdTry rc y = none
    unfold rdTry
    rw [h]
  rw [this]
theorem deep_none {y : List Nat} : progP 4 (tryW ++ (tryW ++ (tryW ++ (tryW ++ y)))) = none :=
  blockP_try (blockP_try (blockP_try (blockP_try rfl)))
def deepest : Str := k15 ++ Str.ofString "mark a" ++ e15
theorem deepest_none : wri (.str deepest) = none := by
  refine wri_none ?_
  have e : TL.tl deepest = tryW ++ (tryW ++ (tryW ++ (tryW ++ ((List.replicate 1496 tryW).flatten ++ (TL.tl (Str.ofString "mark a") ++ TL.tl e15))))) := by
    unfold deepest k15
    rw [TL.tl_append, TL.tl_append, mul_tl (by decide) (by decide +kernel), show TL.tl (Str.ofString "try { ") = tryW by decide +kernel, show (1500 : Int).toNat = 1496 + 4 from rfl]
    rw [show List.replicate (1496 + 4) tryW = tryW :: tryW :: tryW :: tryW :: List.replicate 1496 tryW from rfl]
    simp only [List.flatten_cons, List.append_assoc]
  rw [e]
  exact deep_none
theorem deepest_heard : d_l_heard (cl (d_read_program (.str deepest))) = ret (.tup [.str tText, .non]) := by
  rw [read_eq (fun a e => by
    have e := D.str.inj e
    rw [← e]
    unfold deepest
    rw [len_app, len_app, len_k15, len_e15, show (Str.ofString "mark a").length = 6 by decide +kernel]
    decide), deepest_none]
  exact heard_txt .non
def tr0 : D := .tup [.str (Str.ofString "try"), .tup [], .tup []]
def mkA : D := .tup [.str (Str.ofString "mark"), .str (Str.ofString "a")]
def mkB : D := .tup [.str (Str.ofString "mark"), .str (Str.ofString "b")]
theorem read_is {a : Str} {v : D} (hl : a.length ≤ Big) (h : wri (.str a) = some v) : cl (d_read_program (.str a)) = ret v := by
  rw [read_eq (fun b e => by rw [← D.str.inj e]; exact hl), h]
  all_goals rfl
theorem four_eq : wri (.str (Txt.join tSemi (List.replicate 4 (Str.ofString "try { - } else { - }")))) = some (.tup (List.replicate 4 tr0)) := by
  kernel_rfl
def c13 : Str := m19 ++ Str.ofString "mark b"
theorem c13_tl : TL.tl c13 = (List.replicate 19 [109, 97, 114, 107, 32, 97, 59, 32]).flatten ++ [109, 97, 114, 107, 32, 98] := by
  unfold c13 m19
  rw [TL.tl_append, mul_tl (by decide) (by decide +kernel), show TL.tl (Str.ofString "mark a; ") = [109, 97, 114, 107, 32, 97, 59, 32] by decide +kernel, show TL.tl (Str.ofString "mark b") = [109, 97, 114, 107, 32, 98] by decide +kernel]
  rfl
theorem c13_eq : wri (.str c13) = some (.tup (List.replicate 19 mkA ++ [mkB])) := by
  have e : progP 4 (TL.tl c13) = some (.tup (List.replicate 19 mkA ++ [mkB]), []) := by
    rw [c13_tl]
    kernel_rfl
  rw [wri_some e, show okB (cn 6 (.tup (List.replicate 19 mkA ++ [mkB])) 0) = true by kernel_rfl, if_pos rfl]
theorem last_eq : wri (.str (Str.ofString "try { keep a } else { - }; set x 1")) = some (.tup [(.tup [(.str (Str.ofString "try")), (.tup [(.tup [(.str (Str.ofString "keep")), (.str (Str.ofString "a"))])]), (.tup [])]), (.tup [(.str (Str.ofString "set")), (.str (Str.ofString "x")), (.int 1)])]) := by
  kernel_rfl
/-! ### the law -/
theorem whole_gen : GenM (fun _ => True) (bnd (mkL [(.int 20), (.int 4)]) fun room => bnd (k_l_program [.pen, .o room, .d (.int 0)]) fun y => cl (k_l_program_text [.d y])) 110000 (fun d => ∃ a : Str, d = .str a ∧ a.length ≤ 4361 ∧ U a) := by
  refine GenR.mk fun r => ?_
  refine (GenR.bind (c := 110000) (d := 0) (R := fun b x y => PrD 4 b ∧ 0 ≤ x ∧ 0 ≤ y ∧ cn 4 b 0 = some (20 - x, 4 - y)) ?_ fun b x y ⟨h1, h2, h3, h4⟩ => ?_).up (by decide)
  · rw [k_l_program_eq]
    exact (block_gen r 5 3 0 20 4 (by decide) (by decide) (by decide) (by decide) (by decide)).up (by decide)
  · obtain ⟨c, t, e1, e2⟩ := text_ok 4 4 6 0 b rfl (by decide) (by decide) h1
    rw [e1] at h4
    simp only [Option.some.injEq, Prod.mk.injEq] at h4
    obtain ⟨s, e3, l, u⟩ := e2 (by omega)
    rw [k_l_program_text_eq, e3, cl_ret]
    exact GenR.ret ⟨s, rfl, by omega, u⟩
theorem law_gen : GenM (fun _ => True) d_law 900000 (fun d => d = .bl true) := by
  unfold d_law
  rw [rngK_eq, rngI_ret (by decide), bnd_ret]
  refine (GenM.forI (c := 120000) (d := 0) (N := 5) (i := 0) (I := fun _ _ => True) (by rw [rngZ_len]; decide) (fun turn _ i j _ _ => ?_) (fun _ _ _ _ => ?_) trivial).up (by rw [rngZ_len]; decide)
  · refine (GenM.bind (c := 110000) (d := 9000) whole_gen fun whole ⟨a, ew, ha, hu⟩ => ?_).up (by decide)
    subst ew
    refine Gen.m ?_
    refine Gen.to (Q := fun o => o = .go ()) ?_ fun o h => ⟨(), h, trivial⟩
    refine (Gen.bind (c := 4) (d := 40) (bent_gen ha hu (by decide)) fun bent hb => ?_).up (by decide)
    refine (Gen.bind (c := 8) (d := 20) (R := fun xs => xs.length = 5 ∧ ∀ x ∈ xs, Tb 100000 x) ?_ fun things ⟨t1, t2⟩ => ?_).up (by decide)
    · refine (Gen.bind (c := 4) (d := 4) (bent_gen ha hu (by decide)) fun y3 h3 => ?_).up (by decide)
      refine (Gen.bind (c := 4) (d := 0) (bent_gen (a := deepS) (n := 72) (by rw [len_deep]; exact Nat.le_refl _) (U.of _) (by decide)) fun y4 h4 => ?_).up (by decide)
      refine Gen.ret ⟨rfl, fun x hx => ?_⟩
      simp only [List.mem_cons, List.not_mem_nil, or_false] at hx
      rcases hx with rfl | rfl | rfl | rfl | rfl
      · exact Tb.st (by omega) hu
      · exact hb.up (by decide)
      · exact h3.up (by decide)
      · exact h4.up (by decide)
      · exact Tb.st (Nat.le_trans (show deepS.length ≤ 72 by rw [len_deep]; exact Nat.le_refl _) (by decide)) (U.of _)
    · refine (Gen.bind (c := 0) (d := 10) (R := fun xs => xs.length = 8 ∧ ∀ x ∈ xs, Tb 100000 x) ?_ fun things1 ⟨v1, v2⟩ => ?_).up (by decide)
      · have l1 : (Str.ofString "try { ").length = 6 := by decide +kernel
        have l2 : (Str.ofString " } else { - }").length = 13 := by decide +kernel
        have l3 : (Str.ofString "; ").length = 2 := by decide +kernel
        have l4 : (Str.ofString "mark b").length = 6 := by decide +kernel
        show Gen (bnd (addS (Str.ofString "try { ") deepS) fun c => bnd (addS c (Str.ofString " } else { - }")) fun c1 => bnd (addS deepS (Str.ofString "; ")) fun c2 => bnd (addS c2 deepS) fun c3 => bnd (repS (Str.ofString "mark a; ") 20) fun c4 => bnd (addS c4 (Str.ofString "mark b")) fun c5 => catD (.lst things) (.lst [(.str c1), (.str c3), (.str c5)])) _ _
        rw [addS_ret (by rw [l1, len_deep]; decide), bnd_ret, addS_ret (by rw [len_app, l1, l2, len_deep]; decide), bnd_ret, addS_ret (by rw [l3, len_deep]; decide), bnd_ret, addS_ret (by rw [len_app, l3, len_deep]; decide), bnd_ret, repS_ret ⟨by decide +kernel, fun _ _ => by decide +kernel, fun _ _ => by decide +kernel⟩ (by decide) (by decide +kernel) (by decide +kernel), bnd_ret]
        rw [show Txt.mul (Str.ofString "mark a; ") 20 = m20 from rfl, addS_ret (by rw [len_m20, l4]; decide), bnd_ret]
        refine Gen.grd (by rw [t1, sizeLine_eq]; exact Nat.le_of_ble_eq_true rfl) (Gen.ret ⟨by rw [List.length_append, t1]; rfl, fun x hx => ?_⟩)
        rcases List.mem_append.mp hx with hx | hx
        · exact t2 x hx
        · have ud : U deepS := U.of _
          have um : U m20 := U.mul (by decide) (by decide +kernel) (U.of _)
          simp only [List.mem_cons, List.not_mem_nil, or_false] at hx
          rcases hx with rfl | rfl | rfl
          · exact Tb.st (by rw [len_app, len_app, l1, l2, len_deep]; decide) (((U.of _).app ud).app (U.of _))
          · exact Tb.st (by rw [len_app, len_app, l3, len_deep]; decide) ((ud.app (U.of _)).app ud)
          · exact Tb.st (by rw [len_app, len_m20, l4]; decide) (um.app (U.of _))
      · rw [bnd_ret]
        refine (Gen.bind (c := 4) (d := 0) (R := fun xs : List D => xs.length ≤ 20 ∧ ∀ x ∈ xs, Tb 100000 x) ?_ fun j1 ⟨q1, q2⟩ => ?_).up (by decide)
        · refine (Gen.cond (c := 4) (d := 0) (fun h => ?_) fun _ => Gen.ret ⟨by rw [v1]; decide, v2⟩).up (by decide)
          have hs : ∃ a2 : Str, bent = .str a2 := by
            cases bent with
            | str a2 => exact ⟨a2, rfl⟩
            | _ => cases h
          obtain ⟨a2, e2⟩ := hs
          subst e2
          obtain ⟨g1, g2⟩ := hb a2 rfl
          refine (Gen.bind (c := 4) (d := 0) (bent_gen g1 g2 (by decide)) fun app happ => ?_).up (by decide)
          refine Gen.room (by rw [v1]; decide) (Gen.ret ⟨by rw [List.length_append, v1]; exact Nat.le_of_ble_eq_true rfl, fun x hx => ?_⟩)
          rcases List.mem_append.mp hx with hx | hx
          · exact v2 x hx
          · rw [List.mem_singleton.mp hx]
            exact happ.up (by decide)
        · refine (Gen.forS (c := 0) (d := 0) (Q := fun o => o = PL.Step.go ()) 20 (fun _ => True) q1 trivial (fun x hx j2 _ => ?_) fun j3 _ => Gen.ret rfl).up (Nat.le_of_ble_eq_true rfl)
          obtain ⟨y, ey, hy, hh⟩ := due_sz ((q2 x hx).u (by decide))
          have e3 := repr_sz hy (by decide) (by decide)
          rw [ey, cl_ret, bnd_ret, e3, bnd_ret, turn_ok hy hh, turn_ok hy hh]
          exact Gen.ret trivial
  · refine Gen.m ?_
    rw [repS_ret ⟨by decide +kernel, fun _ _ => by decide +kernel, fun _ _ => by decide +kernel⟩ (by decide) (by decide +kernel) (by decide +kernel), bnd_ret, show Txt.mul (Str.ofString "try { ") 1500 = k15 from rfl, addS_ret (by rw [len_k15, show (Str.ofString "mark a").length = 6 by decide +kernel]; decide), bnd_ret]
    rw [repS_ret ⟨by decide +kernel, fun _ _ => by decide +kernel, fun _ _ => by decide +kernel⟩ (by decide) (by decide +kernel) (by decide +kernel), bnd_ret, show Txt.mul (Str.ofString " } else { - }") 1500 = e15 from rfl, addS_ret (by rw [len_app, len_k15, len_e15, show (Str.ofString "mark a").length = 6 by decide +kernel]; decide), bnd_ret]
    rw [show k15 ++ Str.ofString "mark a" ++ e15 = deepest from rfl, deepest_heard, bnd_ret, neB_same (by decide +kernel), bnd_ret, if_neg (by decide)]
    have r4 : repD (.lst [(.str (Str.ofString "try { - } else { - }"))]) (.int 4) = ret (.lst ((List.replicate 4 (Str.ofString "try { - } else { - }")).map .str)) := by
      show grd _ _ = _
      rw [grd_pos ⟨by decide, by decide, by rw [sizeLine_eq]; decide⟩]
      rfl
    rw [r4, bnd_ret, join_ret (by decide +kernel), bnd_ret, read_is (Nat.le_trans (show _ ≤ 100 by decide +kernel) (by decide)) four_eq, bnd_ret]
    rw [show (4 : Int) = ((4 : Nat) : Int) from rfl, rep_tup _ (by decide) (by decide), bnd_ret, show List.replicate 4 (D.tup [(.str (Str.ofString "try")), (.tup []), (.tup [])]) = List.replicate 4 tr0 from rfl, neB_same (by decide +kernel), bnd_ret, if_neg (by decide)]
    rw [repS_ret ⟨by decide +kernel, fun _ _ => by decide +kernel, fun _ _ => by decide +kernel⟩ (by decide) (by decide +kernel) (by decide +kernel), bnd_ret, show Txt.mul (Str.ofString "mark a; ") 19 = m19 from rfl, addS_ret (by rw [len_m19, show (Str.ofString "mark b").length = 6 by decide +kernel]; decide), bnd_ret, show m19 ++ Str.ofString "mark b" = c13 from rfl]
    rw [read_is (by unfold c13; rw [len_app, len_m19, show (Str.ofString "mark b").length = 6 by decide +kernel]; decide) c13_eq, bnd_ret, show (19 : Int) = ((19 : Nat) : Int) from rfl, rep_tup _ (by decide) (by decide), bnd_ret]
    have ea : addD (.tup (List.replicate 19 (D.tup [(.str (Str.ofString "mark")), (.str (Str.ofString "a"))]))) (.tup [(.tup [(.str (Str.ofString "mark")), (.str (Str.ofString "b"))])]) = ret (.tup (List.replicate 19 mkA ++ [mkB])) := grd_pos (by rw [sizeLine_eq]; decide) _
    rw [ea, bnd_ret, neB_same (by decide +kernel), bnd_ret, if_neg (by decide)]
    rw [read_is (by decide +kernel) last_eq, bnd_ret, eqB_same (by decide +kernel), bnd_ret]
    exact Gen.ret rfl
theorem holds : d_law n0 (fun d _ => d = .bl true) (fun _ _ => False) := law_gen n0 _ _ (by decide) trivial fun a k q _ _ _ => q
end Q82

namespace Q82
open PySem PySem.Spec L2 PL LamX
section
variable {w : World} {K : PySem.W.Frag} {h : Heap} {mg : Str → Option Value} (X : K.In h) (G : h.Ns mainGlobals mg)
include X G
set_option maxHeartbeats 0 in
theorem fin {P : Program} {fa : Addr} {qp : Program} (holds : d_law n0 (fun d _ => d = .bl true) (fun _ _ => False)) (hfa : mg "law" = some (.ref fa)) (TT : TabsOf qp mg h) (hx_law : ((PyProof.Rows.recsOf qp).any fun e => e.name == ("law" : Str)) = true) (z_ValueError : PySem.W.nsIn K mainGlobals "ValueError" = some none)
  (z_abs : PySem.W.nsIn K mainGlobals "abs" = some none)
  (z_all : PySem.W.nsIn K mainGlobals "all" = some none)
  (z_bool : PySem.W.nsIn K mainGlobals "bool" = some none)
  (z_int : PySem.W.nsIn K mainGlobals "int" = some none)
  (z_isinstance : PySem.W.nsIn K mainGlobals "isinstance" = some none)
  (z_len : PySem.W.nsIn K mainGlobals "len" = some none)
  (z_list : PySem.W.nsIn K mainGlobals "list" = some none)
  (z_range : PySem.W.nsIn K mainGlobals "range" = some none)
  (z_repr : PySem.W.nsIn K mainGlobals "repr" = some none)
  (z_str : PySem.W.nsIn K mainGlobals "str" = some none)
  (z_sum : PySem.W.nsIn K mainGlobals "sum" = some none)
  (z_tuple : PySem.W.nsIn K mainGlobals "tuple" = some none)
  {t_BACK : Tok} (c_BACK : PySem.W.nsIn K mainGlobals "BACK" = some (some (.str "back" t_BACK)))
  {t_DEEPEST_TRY : Tok} (c_DEEPEST_TRY : PySem.W.nsIn K mainGlobals "DEEPEST_TRY" = some (some (.int 3 t_DEEPEST_TRY)))
  {t_DEL : Tok} (c_DEL : PySem.W.nsIn K mainGlobals "DEL" = some (some (.str "del" t_DEL)))
  {t_DIGITS : Tok} (c_DIGITS : PySem.W.nsIn K mainGlobals "DIGITS" = some (some (.str "0123456789" t_DIGITS)))
  {t_ELSE : Tok} (c_ELSE : PySem.W.nsIn K mainGlobals "ELSE" = some (some (.str " } else { " t_ELSE)))
  {t_END : Tok} (c_END : PySem.W.nsIn K mainGlobals "END" = some (some (.str " }" t_END)))
  {t_GREATEST_VALUE : Tok} (c_GREATEST_VALUE : PySem.W.nsIn K mainGlobals "GREATEST_VALUE" = some (some (.int 1000000000000000000 t_GREATEST_VALUE)))
  {t_KEEP : Tok} (c_KEEP : PySem.W.nsIn K mainGlobals "KEEP" = some (some (.str "keep" t_KEEP)))
  {t_LETTERS : Tok} (c_LETTERS : PySem.W.nsIn K mainGlobals "LETTERS" = some (some (.str "abcdefghijklmnopqrstuvwxyz" t_LETTERS)))
  {t_LONGEST_WORD : Tok} (c_LONGEST_WORD : PySem.W.nsIn K mainGlobals "LONGEST_WORD" = some (some (.int 8 t_LONGEST_WORD)))
  {t_MARK : Tok} (c_MARK : PySem.W.nsIn K mainGlobals "MARK" = some (some (.str "mark" t_MARK)))
  {t_MOST_DEPTH : Tok} (c_MOST_DEPTH : PySem.W.nsIn K mainGlobals "MOST_DEPTH" = some (some (.int 3 t_MOST_DEPTH)))
  {t_MOST_DIGITS : Tok} (c_MOST_DIGITS : PySem.W.nsIn K mainGlobals "MOST_DIGITS" = some (some (.int 60 t_MOST_DIGITS)))
  {t_MOST_TRIED_COMMANDS : Tok} (c_MOST_TRIED_COMMANDS : PySem.W.nsIn K mainGlobals "MOST_TRIED_COMMANDS" = some (some (.int 20 t_MOST_TRIED_COMMANDS)))
  {t_MOST_TRIES : Tok} (c_MOST_TRIES : PySem.W.nsIn K mainGlobals "MOST_TRIES" = some (some (.int 4 t_MOST_TRIES)))
  {t_NOTHING : Tok} (c_NOTHING : PySem.W.nsIn K mainGlobals "NOTHING" = some (some (.str "-" t_NOTHING)))
  {t_SET : Tok} (c_SET : PySem.W.nsIn K mainGlobals "SET" = some (some (.str "set" t_SET)))
  {t_TRY_programs : Tok} (c_TRY_programs : PySem.W.nsIn K mainGlobals "TRY_programs" = some (some (.str "try" t_TRY_programs)))
  {t_TRY_reader : Tok} (c_TRY_reader : PySem.W.nsIn K mainGlobals "TRY_reader" = some (some (.str "try { " t_TRY_reader)))
  {C_RewindError : Addr} (xa_RewindError : PySem.W.nsIn K mainGlobals "RewindError" = some (some (.ref C_RewindError)))
  {C_InvalidState : Addr} (xa_InvalidState : PySem.W.nsIn K mainGlobals "InvalidState" = some (some (.ref C_InvalidState)))
  {C_InvalidScript : Addr} (xa_InvalidScript : PySem.W.nsIn K mainGlobals "InvalidScript" = some (some (.ref C_InvalidScript)))
  {C_InvalidCommand : Addr} (xa_InvalidCommand : PySem.W.nsIn K mainGlobals "InvalidCommand" = some (some (.ref C_InvalidCommand)))
  {C_InvalidProgram : Addr} (xa_InvalidProgram : PySem.W.nsIn K mainGlobals "InvalidProgram" = some (some (.ref C_InvalidProgram)))
  {C_InvalidText : Addr} (xa_InvalidText : PySem.W.nsIn K mainGlobals "InvalidText" = some (some (.ref C_InvalidText)))
  {C_InvalidLine : Addr} (xa_InvalidLine : PySem.W.nsIn K mainGlobals "InvalidLine" = some (some (.ref C_InvalidLine)))
  {C_Refused : Addr} (xa_Refused : PySem.W.nsIn K mainGlobals "Refused" = some (some (.ref C_Refused)))
  {C_Full : Addr} (xa_Full : PySem.W.nsIn K mainGlobals "Full" = some (some (.ref C_Full)))
  {C_TooLong : Addr} (xa_TooLong : PySem.W.nsIn K mainGlobals "TooLong" = some (some (.ref C_TooLong)))
  {C_TooLarge : Addr} (xa_TooLarge : PySem.W.nsIn K mainGlobals "TooLarge" = some (some (.ref C_TooLarge)))
  {fI_InvalidText : Addr} (xi_InvalidText : PySem.W.findIn K (.ref C_InvalidText) "__init__" = some (some (.ref fI_InvalidText)))
  {xod_InvalidText xan_InvalidText : Option Addr} {xsl_InvalidText : Array (Option Value)} {xoc_InvalidText xkV_InvalidText xdc_InvalidText xpm_InvalidText xcd_InvalidText xct_InvalidText : Value}
  (xl_InvalidText : K.lookup fI_InvalidText = some ⟨xoc_InvalidText, xod_InvalidText, .func (PySem.W.fnOf "__init__" "InvalidText.__init__" (defArgs (clsDef (topS 6) 0)) (defBody (clsDef (topS 6) 0)) (defScope (clsDef (topS 6) 0)) .none xkV_InvalidText xdc_InvalidText xpm_InvalidText xan_InvalidText xcd_InvalidText xct_InvalidText), xsl_InvalidText⟩)
  (xe_InvalidText : PySem.W.codeIn K xcd_InvalidText "InvalidText.__init__" = true)
  (xk_InvalidText : PySem.W.keepIn K (.ref fI_InvalidText) = true)
  (xt_InvalidText : PySem.W.typeIn K (.ref fI_InvalidText) = some (.type "function"))
  (xb_InvalidText : oexChk K C_InvalidText [.type "ValueError", .type "Exception", .type "BaseException", .type "object"] "ValueError.__new__" "position" = true)
  (xch : errChk K errT [(Str.ofString "InvalidText", C_InvalidText)] [(Str.ofString "RewindError", .ref C_RewindError), (Str.ofString "Refused", .ref C_Refused), (Str.ofString "Full", .ref C_Full), (Str.ofString "TooLong", .ref C_TooLong), (Str.ofString "TooLarge", .ref C_TooLarge), (Str.ofString "InvalidScript", .ref C_InvalidScript), (Str.ofString "InvalidState", .ref C_InvalidState), (Str.ofString "InvalidProgram", .ref C_InvalidProgram), (Str.ofString "InvalidCommand", .ref C_InvalidCommand), (Str.ofString "InvalidLine", .ref C_InvalidLine), (Str.ofString "InvalidText", .ref C_InvalidText), (Str.ofString "ValueError", .type "ValueError")] = true)
  (xf_position : fldChk K [(Str.ofString "InvalidText", C_InvalidText)] "position" = true)
  {f_is_integer : Addr} {od_is_integer an_is_integer : Option Addr} {sl_is_integer : Array (Option Value)} {oc_is_integer kV_is_integer dc_is_integer pm_is_integer cd_is_integer ct_is_integer : Value}
  (a_is_integer : PySem.W.nsIn K mainGlobals "is_integer" = some (some (.ref f_is_integer)))
  (l_is_integer : K.lookup f_is_integer = some ⟨oc_is_integer, od_is_integer, .func (PySem.W.fnOf "is_integer" "is_integer" (defArgs s_is_integer) (defBody s_is_integer) (defScope s_is_integer) .none kV_is_integer dc_is_integer pm_is_integer an_is_integer cd_is_integer ct_is_integer), sl_is_integer⟩)
  (e_is_integer : PySem.W.codeIn K cd_is_integer "is_integer" = true)
  (k_is_integer : PySem.W.keepIn K (.ref f_is_integer) = true)
  {f_is_between : Addr} {od_is_between an_is_between : Option Addr} {sl_is_between : Array (Option Value)} {oc_is_between kV_is_between dc_is_between pm_is_between cd_is_between ct_is_between : Value}
  (a_is_between : PySem.W.nsIn K mainGlobals "is_between" = some (some (.ref f_is_between)))
  (l_is_between : K.lookup f_is_between = some ⟨oc_is_between, od_is_between, .func (PySem.W.fnOf "is_between" "is_between" (defArgs s_is_between) (defBody s_is_between) (defScope s_is_between) .none kV_is_between dc_is_between pm_is_between an_is_between cd_is_between ct_is_between), sl_is_between⟩)
  (e_is_between : PySem.W.codeIn K cd_is_between "is_between" = true)
  (k_is_between : PySem.W.keepIn K (.ref f_is_between) = true)
  {f_is_word : Addr} {od_is_word an_is_word : Option Addr} {sl_is_word : Array (Option Value)} {oc_is_word kV_is_word dc_is_word pm_is_word cd_is_word ct_is_word : Value}
  (a_is_word : PySem.W.nsIn K mainGlobals "is_word" = some (some (.ref f_is_word)))
  (l_is_word : K.lookup f_is_word = some ⟨oc_is_word, od_is_word, .func (PySem.W.fnOf "is_word" "is_word" (defArgs s_is_word) (defBody s_is_word) (defScope s_is_word) .none kV_is_word dc_is_word pm_is_word an_is_word cd_is_word ct_is_word), sl_is_word⟩)
  (e_is_word : PySem.W.codeIn K cd_is_word "is_word" = true)
  (k_is_word : PySem.W.keepIn K (.ref f_is_word) = true)
  {f_is_value : Addr} {od_is_value an_is_value : Option Addr} {sl_is_value : Array (Option Value)} {oc_is_value kV_is_value dc_is_value pm_is_value cd_is_value ct_is_value : Value}
  (a_is_value : PySem.W.nsIn K mainGlobals "is_value" = some (some (.ref f_is_value)))
  (l_is_value : K.lookup f_is_value = some ⟨oc_is_value, od_is_value, .func (PySem.W.fnOf "is_value" "is_value" (defArgs s_is_value) (defBody s_is_value) (defScope s_is_value) .none kV_is_value dc_is_value pm_is_value an_is_value cd_is_value ct_is_value), sl_is_value⟩)
  (e_is_value : PySem.W.codeIn K cd_is_value "is_value" = true)
  (k_is_value : PySem.W.keepIn K (.ref f_is_value) = true)
  {f_is_command : Addr} {od_is_command an_is_command : Option Addr} {sl_is_command : Array (Option Value)} {oc_is_command kV_is_command dc_is_command pm_is_command cd_is_command ct_is_command : Value}
  (a_is_command : PySem.W.nsIn K mainGlobals "is_command" = some (some (.ref f_is_command)))
  (l_is_command : K.lookup f_is_command = some ⟨oc_is_command, od_is_command, .func (PySem.W.fnOf "is_command" "is_command" (defArgs s_is_command) (defBody s_is_command) (defScope s_is_command) .none kV_is_command dc_is_command pm_is_command an_is_command cd_is_command ct_is_command), sl_is_command⟩)
  (e_is_command : PySem.W.codeIn K cd_is_command "is_command" = true)
  (k_is_command : PySem.W.keepIn K (.ref f_is_command) = true)
  {f_is_try : Addr} {od_is_try an_is_try : Option Addr} {sl_is_try : Array (Option Value)} {oc_is_try kV_is_try dc_is_try pm_is_try cd_is_try ct_is_try : Value}
  (a_is_try : PySem.W.nsIn K mainGlobals "is_try" = some (some (.ref f_is_try)))
  (l_is_try : K.lookup f_is_try = some ⟨oc_is_try, od_is_try, .func (PySem.W.fnOf "is_try" "is_try" (defArgs s_is_try) (defBody s_is_try) (defScope s_is_try) .none kV_is_try dc_is_try pm_is_try an_is_try cd_is_try ct_is_try), sl_is_try⟩)
  (e_is_try : PySem.W.codeIn K cd_is_try "is_try" = true)
  (k_is_try : PySem.W.keepIn K (.ref f_is_try) = true)
  {f_parts_of : Addr} {od_parts_of an_parts_of : Option Addr} {sl_parts_of : Array (Option Value)} {oc_parts_of kV_parts_of dc_parts_of pm_parts_of cd_parts_of ct_parts_of : Value}
  (a_parts_of : PySem.W.nsIn K mainGlobals "parts_of" = some (some (.ref f_parts_of)))
  (l_parts_of : K.lookup f_parts_of = some ⟨oc_parts_of, od_parts_of, .func (PySem.W.fnOf "parts_of" "parts_of" (defArgs s_parts_of) (defBody s_parts_of) (defScope s_parts_of) .none kV_parts_of dc_parts_of pm_parts_of an_parts_of cd_parts_of ct_parts_of), sl_parts_of⟩)
  (e_parts_of : PySem.W.codeIn K cd_parts_of "parts_of" = true)
  (k_parts_of : PySem.W.keepIn K (.ref f_parts_of) = true)
  {f_is_program : Addr} {od_is_program an_is_program : Option Addr} {sl_is_program : Array (Option Value)} {oc_is_program kV_is_program dc_is_program pm_is_program cd_is_program ct_is_program : Value}
  (a_is_program : PySem.W.nsIn K mainGlobals "is_program" = some (some (.ref f_is_program)))
  (l_is_program : K.lookup f_is_program = some ⟨oc_is_program, od_is_program, .func (PySem.W.fnOf "is_program" "is_program" (defArgs s_is_program) (defBody s_is_program) (defScope s_is_program) .none kV_is_program dc_is_program pm_is_program an_is_program cd_is_program ct_is_program), sl_is_program⟩)
  (e_is_program : PySem.W.codeIn K cd_is_program "is_program" = true)
  (k_is_program : PySem.W.keepIn K (.ref f_is_program) = true)
  {f_number_in : Addr} {od_number_in an_number_in : Option Addr} {sl_number_in : Array (Option Value)} {oc_number_in kV_number_in dc_number_in pm_number_in cd_number_in ct_number_in : Value}
  (a_number_in : PySem.W.nsIn K mainGlobals "number_in" = some (some (.ref f_number_in)))
  (l_number_in : K.lookup f_number_in = some ⟨oc_number_in, od_number_in, .func (PySem.W.fnOf "number_in" "number_in" (defArgs s_number_in) (defBody s_number_in) (defScope s_number_in) .none kV_number_in dc_number_in pm_number_in an_number_in cd_number_in ct_number_in), sl_number_in⟩)
  (e_number_in : PySem.W.codeIn K cd_number_in "number_in" = true)
  (k_number_in : PySem.W.keepIn K (.ref f_number_in) = true)
  {f_command_in : Addr} {od_command_in an_command_in : Option Addr} {sl_command_in : Array (Option Value)} {oc_command_in kV_command_in dc_command_in pm_command_in cd_command_in ct_command_in : Value}
  (a_command_in : PySem.W.nsIn K mainGlobals "command_in" = some (some (.ref f_command_in)))
  (l_command_in : K.lookup f_command_in = some ⟨oc_command_in, od_command_in, .func (PySem.W.fnOf "command_in" "command_in" (defArgs s_command_in) (defBody s_command_in) (defScope s_command_in) .none kV_command_in dc_command_in pm_command_in an_command_in cd_command_in ct_command_in), sl_command_in⟩)
  (e_command_in : PySem.W.codeIn K cd_command_in "command_in" = true)
  (k_command_in : PySem.W.keepIn K (.ref f_command_in) = true)
  {f_need_text : Addr} {od_need_text an_need_text : Option Addr} {sl_need_text : Array (Option Value)} {oc_need_text kV_need_text dc_need_text pm_need_text cd_need_text ct_need_text : Value}
  (a_need_text : PySem.W.nsIn K mainGlobals "need_text" = some (some (.ref f_need_text)))
  (l_need_text : K.lookup f_need_text = some ⟨oc_need_text, od_need_text, .func (PySem.W.fnOf "need_text" "need_text" (defArgs s_need_text) (defBody s_need_text) (defScope s_need_text) .none kV_need_text dc_need_text pm_need_text an_need_text cd_need_text ct_need_text), sl_need_text⟩)
  (e_need_text : PySem.W.codeIn K cd_need_text "need_text" = true)
  (k_need_text : PySem.W.keepIn K (.ref f_need_text) = true)
  {f_command_end : Addr} {od_command_end an_command_end : Option Addr} {sl_command_end : Array (Option Value)} {oc_command_end kV_command_end dc_command_end pm_command_end cd_command_end ct_command_end : Value}
  (a_command_end : PySem.W.nsIn K mainGlobals "command_end" = some (some (.ref f_command_end)))
  (l_command_end : K.lookup f_command_end = some ⟨oc_command_end, od_command_end, .func (PySem.W.fnOf "command_end" "command_end" (defArgs s_command_end) (defBody s_command_end) (defScope s_command_end) .none kV_command_end dc_command_end pm_command_end an_command_end cd_command_end ct_command_end), sl_command_end⟩)
  (e_command_end : PySem.W.codeIn K cd_command_end "command_end" = true)
  (k_command_end : PySem.W.keepIn K (.ref f_command_end) = true)
  {f_item_at : Addr} {od_item_at an_item_at : Option Addr} {sl_item_at : Array (Option Value)} {oc_item_at kV_item_at dc_item_at pm_item_at cd_item_at ct_item_at : Value}
  (a_item_at : PySem.W.nsIn K mainGlobals "item_at" = some (some (.ref f_item_at)))
  (l_item_at : K.lookup f_item_at = some ⟨oc_item_at, od_item_at, .func (PySem.W.fnOf "item_at" "item_at" (defArgs s_item_at) (defBody s_item_at) (defScope s_item_at) .none kV_item_at dc_item_at pm_item_at an_item_at cd_item_at ct_item_at), sl_item_at⟩)
  (e_item_at : PySem.W.codeIn K cd_item_at "item_at" = true)
  (k_item_at : PySem.W.keepIn K (.ref f_item_at) = true)
  {f_program_at : Addr} {od_program_at an_program_at : Option Addr} {sl_program_at : Array (Option Value)} {oc_program_at kV_program_at dc_program_at pm_program_at cd_program_at ct_program_at : Value}
  (a_program_at : PySem.W.nsIn K mainGlobals "program_at" = some (some (.ref f_program_at)))
  (l_program_at : K.lookup f_program_at = some ⟨oc_program_at, od_program_at, .func (PySem.W.fnOf "program_at" "program_at" (defArgs s_program_at) (defBody s_program_at) (defScope s_program_at) .none kV_program_at dc_program_at pm_program_at an_program_at cd_program_at ct_program_at), sl_program_at⟩)
  (e_program_at : PySem.W.codeIn K cd_program_at "program_at" = true)
  (k_program_at : PySem.W.keepIn K (.ref f_program_at) = true)
  {f_read_program : Addr} {od_read_program an_read_program : Option Addr} {sl_read_program : Array (Option Value)} {oc_read_program kV_read_program dc_read_program pm_read_program cd_read_program ct_read_program : Value}
  (a_read_program : PySem.W.nsIn K mainGlobals "read_program" = some (some (.ref f_read_program)))
  (l_read_program : K.lookup f_read_program = some ⟨oc_read_program, od_read_program, .func (PySem.W.fnOf "read_program" "read_program" (defArgs s_read_program) (defBody s_read_program) (defScope s_read_program) .none kV_read_program dc_read_program pm_read_program an_read_program cd_read_program ct_read_program), sl_read_program⟩)
  (e_read_program : PySem.W.codeIn K cd_read_program "read_program" = true)
  (k_read_program : PySem.W.keepIn K (.ref f_read_program) = true)
  {f_l_feed : Addr} {od_l_feed an_l_feed : Option Addr} {sl_l_feed : Array (Option Value)} {oc_l_feed kV_l_feed dc_l_feed pm_l_feed cd_l_feed ct_l_feed : Value}
  (a_l_feed : PySem.W.nsIn K mainGlobals "_law_feed" = some (some (.ref f_l_feed)))
  (l_l_feed : K.lookup f_l_feed = some ⟨oc_l_feed, od_l_feed, .func (PySem.W.fnOf "_law_feed" "_law_feed" (defArgs s_l_feed) (defBody s_l_feed) (defScope s_l_feed) .none kV_l_feed dc_l_feed pm_l_feed an_l_feed cd_l_feed ct_l_feed), sl_l_feed⟩)
  (e_l_feed : PySem.W.codeIn K cd_l_feed "_law_feed" = true)
  (k_l_feed : PySem.W.keepIn K (.ref f_l_feed) = true)
  {f_l_take : Addr} {od_l_take an_l_take : Option Addr} {sl_l_take : Array (Option Value)} {oc_l_take kV_l_take dc_l_take pm_l_take cd_l_take ct_l_take : Value}
  (a_l_take : PySem.W.nsIn K mainGlobals "_law_take" = some (some (.ref f_l_take)))
  (l_l_take : K.lookup f_l_take = some ⟨oc_l_take, od_l_take, .func (PySem.W.fnOf "_law_take" "_law_take" (defArgs s_l_take) (defBody s_l_take) (defScope s_l_take) .none kV_l_take dc_l_take pm_l_take an_l_take cd_l_take ct_l_take), sl_l_take⟩)
  (e_l_take : PySem.W.codeIn K cd_l_take "_law_take" = true)
  (k_l_take : PySem.W.keepIn K (.ref f_l_take) = true)
  {f_l_word : Addr} {od_l_word an_l_word : Option Addr} {sl_l_word : Array (Option Value)} {oc_l_word kV_l_word dc_l_word pm_l_word cd_l_word ct_l_word : Value}
  (a_l_word : PySem.W.nsIn K mainGlobals "_law_word" = some (some (.ref f_l_word)))
  (l_l_word : K.lookup f_l_word = some ⟨oc_l_word, od_l_word, .func (PySem.W.fnOf "_law_word" "_law_word" (defArgs s_l_word) (defBody s_l_word) (defScope s_l_word) .none kV_l_word dc_l_word pm_l_word an_l_word cd_l_word ct_l_word), sl_l_word⟩)
  (e_l_word : PySem.W.codeIn K cd_l_word "_law_word" = true)
  (k_l_word : PySem.W.keepIn K (.ref f_l_word) = true)
  {f_l_number : Addr} {od_l_number an_l_number : Option Addr} {sl_l_number : Array (Option Value)} {oc_l_number kV_l_number dc_l_number pm_l_number cd_l_number ct_l_number : Value}
  (a_l_number : PySem.W.nsIn K mainGlobals "_law_number" = some (some (.ref f_l_number)))
  (l_l_number : K.lookup f_l_number = some ⟨oc_l_number, od_l_number, .func (PySem.W.fnOf "_law_number" "_law_number" (defArgs s_l_number) (defBody s_l_number) (defScope s_l_number) .none kV_l_number dc_l_number pm_l_number an_l_number cd_l_number ct_l_number), sl_l_number⟩)
  (e_l_number : PySem.W.codeIn K cd_l_number "_law_number" = true)
  (k_l_number : PySem.W.keepIn K (.ref f_l_number) = true)
  {f_l_command : Addr} {od_l_command an_l_command : Option Addr} {sl_l_command : Array (Option Value)} {oc_l_command kV_l_command dc_l_command pm_l_command cd_l_command ct_l_command : Value}
  (a_l_command : PySem.W.nsIn K mainGlobals "_law_command" = some (some (.ref f_l_command)))
  (l_l_command : K.lookup f_l_command = some ⟨oc_l_command, od_l_command, .func (PySem.W.fnOf "_law_command" "_law_command" (defArgs s_l_command) (defBody s_l_command) (defScope s_l_command) .none kV_l_command dc_l_command pm_l_command an_l_command cd_l_command ct_l_command), sl_l_command⟩)
  (e_l_command : PySem.W.codeIn K cd_l_command "_law_command" = true)
  (k_l_command : PySem.W.keepIn K (.ref f_l_command) = true)
  {f_l_is_word : Addr} {od_l_is_word an_l_is_word : Option Addr} {sl_l_is_word : Array (Option Value)} {oc_l_is_word kV_l_is_word dc_l_is_word pm_l_is_word cd_l_is_word ct_l_is_word : Value}
  (a_l_is_word : PySem.W.nsIn K mainGlobals "_law_is_word" = some (some (.ref f_l_is_word)))
  (l_l_is_word : K.lookup f_l_is_word = some ⟨oc_l_is_word, od_l_is_word, .func (PySem.W.fnOf "_law_is_word" "_law_is_word" (defArgs s_l_is_word) (defBody s_l_is_word) (defScope s_l_is_word) .none kV_l_is_word dc_l_is_word pm_l_is_word an_l_is_word cd_l_is_word ct_l_is_word), sl_l_is_word⟩)
  (e_l_is_word : PySem.W.codeIn K cd_l_is_word "_law_is_word" = true)
  (k_l_is_word : PySem.W.keepIn K (.ref f_l_is_word) = true)
  {f_l_is_number : Addr} {od_l_is_number an_l_is_number : Option Addr} {sl_l_is_number : Array (Option Value)} {oc_l_is_number kV_l_is_number dc_l_is_number pm_l_is_number cd_l_is_number ct_l_is_number : Value}
  (a_l_is_number : PySem.W.nsIn K mainGlobals "_law_is_number" = some (some (.ref f_l_is_number)))
  (l_l_is_number : K.lookup f_l_is_number = some ⟨oc_l_is_number, od_l_is_number, .func (PySem.W.fnOf "_law_is_number" "_law_is_number" (defArgs s_l_is_number) (defBody s_l_is_number) (defScope s_l_is_number) .none kV_l_is_number dc_l_is_number pm_l_is_number an_l_is_number cd_l_is_number ct_l_is_number), sl_l_is_number⟩)
  (e_l_is_number : PySem.W.codeIn K cd_l_is_number "_law_is_number" = true)
  (k_l_is_number : PySem.W.keepIn K (.ref f_l_is_number) = true)
  {f_l_is_command : Addr} {od_l_is_command an_l_is_command : Option Addr} {sl_l_is_command : Array (Option Value)} {oc_l_is_command kV_l_is_command dc_l_is_command pm_l_is_command cd_l_is_command ct_l_is_command : Value}
  (a_l_is_command : PySem.W.nsIn K mainGlobals "_law_is_command" = some (some (.ref f_l_is_command)))
  (l_l_is_command : K.lookup f_l_is_command = some ⟨oc_l_is_command, od_l_is_command, .func (PySem.W.fnOf "_law_is_command" "_law_is_command" (defArgs s_l_is_command) (defBody s_l_is_command) (defScope s_l_is_command) .none kV_l_is_command dc_l_is_command pm_l_is_command an_l_is_command cd_l_is_command ct_l_is_command), sl_l_is_command⟩)
  (e_l_is_command : PySem.W.codeIn K cd_l_is_command "_law_is_command" = true)
  (k_l_is_command : PySem.W.keepIn K (.ref f_l_is_command) = true)
  {f_l_shown : Addr} {od_l_shown an_l_shown : Option Addr} {sl_l_shown : Array (Option Value)} {oc_l_shown kV_l_shown dc_l_shown pm_l_shown cd_l_shown ct_l_shown : Value}
  (a_l_shown : PySem.W.nsIn K mainGlobals "_law_shown" = some (some (.ref f_l_shown)))
  (l_l_shown : K.lookup f_l_shown = some ⟨oc_l_shown, od_l_shown, .func (PySem.W.fnOf "_law_shown" "_law_shown" (defArgs s_l_shown) (defBody s_l_shown) (defScope s_l_shown) .none kV_l_shown dc_l_shown pm_l_shown an_l_shown cd_l_shown ct_l_shown), sl_l_shown⟩)
  (e_l_shown : PySem.W.codeIn K cd_l_shown "_law_shown" = true)
  (k_l_shown : PySem.W.keepIn K (.ref f_l_shown) = true)
  {f_l_number_in : Addr} {od_l_number_in an_l_number_in : Option Addr} {sl_l_number_in : Array (Option Value)} {oc_l_number_in kV_l_number_in dc_l_number_in pm_l_number_in cd_l_number_in ct_l_number_in : Value}
  (a_l_number_in : PySem.W.nsIn K mainGlobals "_law_number_in" = some (some (.ref f_l_number_in)))
  (l_l_number_in : K.lookup f_l_number_in = some ⟨oc_l_number_in, od_l_number_in, .func (PySem.W.fnOf "_law_number_in" "_law_number_in" (defArgs s_l_number_in) (defBody s_l_number_in) (defScope s_l_number_in) .none kV_l_number_in dc_l_number_in pm_l_number_in an_l_number_in cd_l_number_in ct_l_number_in), sl_l_number_in⟩)
  (e_l_number_in : PySem.W.codeIn K cd_l_number_in "_law_number_in" = true)
  (k_l_number_in : PySem.W.keepIn K (.ref f_l_number_in) = true)
  {f_l_command_in : Addr} {od_l_command_in an_l_command_in : Option Addr} {sl_l_command_in : Array (Option Value)} {oc_l_command_in kV_l_command_in dc_l_command_in pm_l_command_in cd_l_command_in ct_l_command_in : Value}
  (a_l_command_in : PySem.W.nsIn K mainGlobals "_law_command_in" = some (some (.ref f_l_command_in)))
  (l_l_command_in : K.lookup f_l_command_in = some ⟨oc_l_command_in, od_l_command_in, .func (PySem.W.fnOf "_law_command_in" "_law_command_in" (defArgs s_l_command_in) (defBody s_l_command_in) (defScope s_l_command_in) .none kV_l_command_in dc_l_command_in pm_l_command_in an_l_command_in cd_l_command_in ct_l_command_in), sl_l_command_in⟩)
  (e_l_command_in : PySem.W.codeIn K cd_l_command_in "_law_command_in" = true)
  (k_l_command_in : PySem.W.keepIn K (.ref f_l_command_in) = true)
  {f_l_program : Addr} {od_l_program an_l_program : Option Addr} {sl_l_program : Array (Option Value)} {oc_l_program kV_l_program dc_l_program pm_l_program cd_l_program ct_l_program : Value}
  (a_l_program : PySem.W.nsIn K mainGlobals "_law_program" = some (some (.ref f_l_program)))
  (l_l_program : K.lookup f_l_program = some ⟨oc_l_program, od_l_program, .func (PySem.W.fnOf "_law_program" "_law_program" (defArgs s_l_program) (defBody s_l_program) (defScope s_l_program) .none kV_l_program dc_l_program pm_l_program an_l_program cd_l_program ct_l_program), sl_l_program⟩)
  (e_l_program : PySem.W.codeIn K cd_l_program "_law_program" = true)
  (k_l_program : PySem.W.keepIn K (.ref f_l_program) = true)
  {f_l_bent_text : Addr} {od_l_bent_text an_l_bent_text : Option Addr} {sl_l_bent_text : Array (Option Value)} {oc_l_bent_text kV_l_bent_text dc_l_bent_text pm_l_bent_text cd_l_bent_text ct_l_bent_text : Value}
  (a_l_bent_text : PySem.W.nsIn K mainGlobals "_law_bent_text" = some (some (.ref f_l_bent_text)))
  (l_l_bent_text : K.lookup f_l_bent_text = some ⟨oc_l_bent_text, od_l_bent_text, .func (PySem.W.fnOf "_law_bent_text" "_law_bent_text" (defArgs s_l_bent_text) (defBody s_l_bent_text) (defScope s_l_bent_text) .none kV_l_bent_text dc_l_bent_text pm_l_bent_text an_l_bent_text cd_l_bent_text ct_l_bent_text), sl_l_bent_text⟩)
  (e_l_bent_text : PySem.W.codeIn K cd_l_bent_text "_law_bent_text" = true)
  (k_l_bent_text : PySem.W.keepIn K (.ref f_l_bent_text) = true)
  {f_l_heard : Addr} {od_l_heard an_l_heard : Option Addr} {sl_l_heard : Array (Option Value)} {oc_l_heard kV_l_heard dc_l_heard pm_l_heard cd_l_heard ct_l_heard : Value}
  (a_l_heard : PySem.W.nsIn K mainGlobals "_law_heard" = some (some (.ref f_l_heard)))
  (l_l_heard : K.lookup f_l_heard = some ⟨oc_l_heard, od_l_heard, .func (PySem.W.fnOf "_law_heard" "_law_heard" (defArgs s_l_heard) (defBody s_l_heard) (defScope s_l_heard) .none kV_l_heard dc_l_heard pm_l_heard an_l_heard cd_l_heard ct_l_heard), sl_l_heard⟩)
  (e_l_heard : PySem.W.codeIn K cd_l_heard "_law_heard" = true)
  (k_l_heard : PySem.W.keepIn K (.ref f_l_heard) = true)
  {f_l_program_text : Addr} {od_l_program_text an_l_program_text : Option Addr} {sl_l_program_text : Array (Option Value)} {oc_l_program_text kV_l_program_text dc_l_program_text pm_l_program_text cd_l_program_text ct_l_program_text : Value}
  (a_l_program_text : PySem.W.nsIn K mainGlobals "_law_program_text" = some (some (.ref f_l_program_text)))
  (l_l_program_text : K.lookup f_l_program_text = some ⟨oc_l_program_text, od_l_program_text, .func (PySem.W.fnOf "_law_program_text" "_law_program_text" (defArgs s_l_program_text) (defBody s_l_program_text) (defScope s_l_program_text) .none kV_l_program_text dc_l_program_text pm_l_program_text an_l_program_text cd_l_program_text ct_l_program_text), sl_l_program_text⟩)
  (e_l_program_text : PySem.W.codeIn K cd_l_program_text "_law_program_text" = true)
  (k_l_program_text : PySem.W.keepIn K (.ref f_l_program_text) = true)
  {f_l_try_in : Addr} {od_l_try_in an_l_try_in : Option Addr} {sl_l_try_in : Array (Option Value)} {oc_l_try_in kV_l_try_in dc_l_try_in pm_l_try_in cd_l_try_in ct_l_try_in : Value}
  (a_l_try_in : PySem.W.nsIn K mainGlobals "_law_try_in" = some (some (.ref f_l_try_in)))
  (l_l_try_in : K.lookup f_l_try_in = some ⟨oc_l_try_in, od_l_try_in, .func (PySem.W.fnOf "_law_try_in" "_law_try_in" (defArgs s_l_try_in) (defBody s_l_try_in) (defScope s_l_try_in) .none kV_l_try_in dc_l_try_in pm_l_try_in an_l_try_in cd_l_try_in ct_l_try_in), sl_l_try_in⟩)
  (e_l_try_in : PySem.W.codeIn K cd_l_try_in "_law_try_in" = true)
  (k_l_try_in : PySem.W.keepIn K (.ref f_l_try_in) = true)
  {f_l_block_in : Addr} {od_l_block_in an_l_block_in : Option Addr} {sl_l_block_in : Array (Option Value)} {oc_l_block_in kV_l_block_in dc_l_block_in pm_l_block_in cd_l_block_in ct_l_block_in : Value}
  (a_l_block_in : PySem.W.nsIn K mainGlobals "_law_block_in" = some (some (.ref f_l_block_in)))
  (l_l_block_in : K.lookup f_l_block_in = some ⟨oc_l_block_in, od_l_block_in, .func (PySem.W.fnOf "_law_block_in" "_law_block_in" (defArgs s_l_block_in) (defBody s_l_block_in) (defScope s_l_block_in) .none kV_l_block_in dc_l_block_in pm_l_block_in an_l_block_in cd_l_block_in ct_l_block_in), sl_l_block_in⟩)
  (e_l_block_in : PySem.W.codeIn K cd_l_block_in "_law_block_in" = true)
  (k_l_block_in : PySem.W.keepIn K (.ref f_l_block_in) = true)
  {f_l_size : Addr} {od_l_size an_l_size : Option Addr} {sl_l_size : Array (Option Value)} {oc_l_size kV_l_size dc_l_size pm_l_size cd_l_size ct_l_size : Value}
  (a_l_size : PySem.W.nsIn K mainGlobals "_law_size" = some (some (.ref f_l_size)))
  (l_l_size : K.lookup f_l_size = some ⟨oc_l_size, od_l_size, .func (PySem.W.fnOf "_law_size" "_law_size" (defArgs s_l_size) (defBody s_l_size) (defScope s_l_size) .none kV_l_size dc_l_size pm_l_size an_l_size cd_l_size ct_l_size), sl_l_size⟩)
  (e_l_size : PySem.W.codeIn K cd_l_size "_law_size" = true)
  (k_l_size : PySem.W.keepIn K (.ref f_l_size) = true)
  {f_l_due : Addr} {od_l_due an_l_due : Option Addr} {sl_l_due : Array (Option Value)} {oc_l_due kV_l_due dc_l_due pm_l_due cd_l_due ct_l_due : Value}
  (a_l_due : PySem.W.nsIn K mainGlobals "_law_due" = some (some (.ref f_l_due)))
  (l_l_due : K.lookup f_l_due = some ⟨oc_l_due, od_l_due, .func (PySem.W.fnOf "_law_due" "_law_due" (defArgs s_l_due) (defBody s_l_due) (defScope s_l_due) .none kV_l_due dc_l_due pm_l_due an_l_due cd_l_due ct_l_due), sl_l_due⟩)
  (e_l_due : PySem.W.codeIn K cd_l_due "_law_due" = true)
  (k_l_due : PySem.W.keepIn K (.ref f_l_due) = true)
  {f_law : Addr} {od_law an_law : Option Addr} {sl_law : Array (Option Value)} {oc_law kV_law dc_law pm_law cd_law ct_law : Value}
  (a_law : PySem.W.nsIn K mainGlobals "law" = some (some (.ref f_law)))
  (l_law : K.lookup f_law = some ⟨oc_law, od_law, .func (PySem.W.fnOf "law" "law" (defArgs s_law) (defBody s_law) (defScope s_law) .none kV_law dc_law pm_law an_law cd_law ct_law), sl_law⟩)
  (e_law : PySem.W.codeIn K cd_law "law" = true)
  (k_law : PySem.W.keepIn K (.ref f_law) = true)
  {c_law P_law : Addr} (tc_law : cd_law = .ref c_law)
  {toc_law : Value} {tod_law : Option Addr} {tvs_law : Array Value} {tsl_law : Array (Option Value)} (tl_law : K.lookup c_law = some ⟨toc_law, tod_law, .fields tvs_law, tsl_law⟩)
  (tv_law : tvs_law[11]? = some (.ref P_law))
  (n_law : K.lookup P_law = none) :
  ∃ (fd : FuncData) (cs : List (Addr × Addr)) (T : List (Addr × Str)), (∀ p ∈ cs, h.get? p.2 = some { cls := .none, data := .fields #[] }) ∧ (∀ p ∈ cs, K.lookup p.2 = none) ∧ (∀ p ∈ cs, PySem.W.CodeHd h p.1 p.2) ∧ (∀ q ∈ T, ∃ p ∈ cs, q.1 = p.2) ∧ (∀ (s : Shared) (u : Value), BindsTo s fd ⟨[u], []⟩ [("_law_script", u)]) ∧ ∀ base : Heap, K.In base → base.Ns mainGlobals mg → (∀ p ∈ cs, TabB base mg p.1 p.2) → FnG P w K mg base 22 fa fd ["_law_script"] (spLawT K T) := by
  have e := hfa.symm.trans (PySem.W.mg_of X G a_law)
  cases e
  have ct_law_ : cd_law = .ref c_law ∧ ∃ (o : Obj) (vs : Array Value), h.get? c_law = some o ∧ o.data = .fields vs ∧ vs[11]? = some (.ref P_law) := ⟨tc_law, _, tvs_law, X _ _ tl_law, rfl, tv_law⟩
  have tt_law_ := TT.at hx_law X (PySem.W.mg_of X G a_law) l_law ct_law_
  have T : ∃ T : Facts K mg, T.f_law = fa ∧ T.d_law = PySem.W.fnOf "law" "law" (defArgs s_law) (defBody s_law) (defScope s_law) .none kV_law dc_law pm_law an_law cd_law ct_law ∧ T.cc_law = c_law ∧ T.P_law = P_law := ⟨⟨PySem.W.mg_none_of X G z_ValueError,
    PySem.W.mg_none_of X G z_abs,
    PySem.W.mg_none_of X G z_all,
    PySem.W.mg_none_of X G z_bool,
    PySem.W.mg_none_of X G z_int,
    PySem.W.mg_none_of X G z_isinstance,
    PySem.W.mg_none_of X G z_len,
    PySem.W.mg_none_of X G z_list,
    PySem.W.mg_none_of X G z_range,
    PySem.W.mg_none_of X G z_repr,
    PySem.W.mg_none_of X G z_str,
    PySem.W.mg_none_of X G z_sum,
    PySem.W.mg_none_of X G z_tuple,
    ⟨t_BACK, PySem.W.mg_of X G c_BACK⟩,
    ⟨t_DEEPEST_TRY, PySem.W.mg_of X G c_DEEPEST_TRY⟩,
    ⟨t_DEL, PySem.W.mg_of X G c_DEL⟩,
    ⟨t_DIGITS, PySem.W.mg_of X G c_DIGITS⟩,
    ⟨t_ELSE, PySem.W.mg_of X G c_ELSE⟩,
    ⟨t_END, PySem.W.mg_of X G c_END⟩,
    ⟨t_GREATEST_VALUE, PySem.W.mg_of X G c_GREATEST_VALUE⟩,
    ⟨t_KEEP, PySem.W.mg_of X G c_KEEP⟩,
    ⟨t_LETTERS, PySem.W.mg_of X G c_LETTERS⟩,
    ⟨t_LONGEST_WORD, PySem.W.mg_of X G c_LONGEST_WORD⟩,
    ⟨t_MARK, PySem.W.mg_of X G c_MARK⟩,
    ⟨t_MOST_DEPTH, PySem.W.mg_of X G c_MOST_DEPTH⟩,
    ⟨t_MOST_DIGITS, PySem.W.mg_of X G c_MOST_DIGITS⟩,
    ⟨t_MOST_TRIED_COMMANDS, PySem.W.mg_of X G c_MOST_TRIED_COMMANDS⟩,
    ⟨t_MOST_TRIES, PySem.W.mg_of X G c_MOST_TRIES⟩,
    ⟨t_NOTHING, PySem.W.mg_of X G c_NOTHING⟩,
    ⟨t_SET, PySem.W.mg_of X G c_SET⟩,
    ⟨t_TRY_programs, PySem.W.mg_of X G c_TRY_programs⟩,
    ⟨t_TRY_reader, PySem.W.mg_of X G c_TRY_reader⟩,
    C_RewindError, PySem.W.mg_of X G xa_RewindError,
    C_InvalidState, PySem.W.mg_of X G xa_InvalidState,
    C_InvalidScript, PySem.W.mg_of X G xa_InvalidScript,
    C_InvalidCommand, PySem.W.mg_of X G xa_InvalidCommand,
    C_InvalidProgram, PySem.W.mg_of X G xa_InvalidProgram,
    C_InvalidText, PySem.W.mg_of X G xa_InvalidText,
    C_InvalidLine, PySem.W.mg_of X G xa_InvalidLine,
    C_Refused, PySem.W.mg_of X G xa_Refused,
    C_Full, PySem.W.mg_of X G xa_Full,
    C_TooLong, PySem.W.mg_of X G xa_TooLong,
    C_TooLarge, PySem.W.mg_of X G xa_TooLarge,
    ⟨"ValueError", "ValueError.__new__", "ValueError.__init__", [.type "ValueError", .type "Exception", .type "BaseException", .type "object"], C_InvalidText, fI_InvalidText, _, _, (clsDef (topS 6) 0), "self", "position", PySem.F.store_ValueError, PySem.F.excBase_ValueError, ⟨(oexChk_ok xb_InvalidText).1, xi_InvalidText, xt_InvalidText, (fun_mk (st := (clsDef (topS 6) 0)) xl_InvalidText xe_InvalidText xk_InvalidText), ⟨rfl, rfl, rfl, by decide +kernel, rfl, by decide +kernel, by decide +kernel⟩, ⟨_, _, _, _, rfl⟩, ⟨by decide, by decide, by decide, by decide⟩, ⟨by decide +kernel, by decide +kernel⟩, (oexChk_ok xb_InvalidText).2, (fun_mk (st := (clsDef (topS 6) 0)) xl_InvalidText xe_InvalidText xk_InvalidText).binds (ps := ["self", "position"]) fun _ _ _ _ _ _ us hl => match us, hl with | [_, _], _ => rfl⟩, PySem.W.mg_of X G xa_InvalidText⟩,
    errI_of2 (as := [(Str.ofString "InvalidText", C_InvalidText)]) (ns := [Str.ofString "InvalidText"]) (ap_cons (PySem.W.mg_of X G xa_InvalidText) (ap_nil)) rfl (by decide +kernel) xch,
    fldOk_of (as := [(Str.ofString "InvalidText", C_InvalidText)]) (ap_cons (PySem.W.mg_of X G xa_InvalidText) (ap_nil)) xf_position,
    f_is_integer, _, (fun_mk (st := s_is_integer) l_is_integer e_is_integer k_is_integer), PySem.W.mg_of X G a_is_integer, ((fun_mk (st := s_is_integer) l_is_integer e_is_integer k_is_integer)).binds (ps := ["value"]) fun _ _ _ _ _ _ us hl => match us, hl with | [_], _ => rfl,
    f_is_between, _, (fun_mk (st := s_is_between) l_is_between e_is_between k_is_between), PySem.W.mg_of X G a_is_between, ((fun_mk (st := s_is_between) l_is_between e_is_between k_is_between)).binds (ps := ["value", "least", "most"]) fun _ _ _ _ _ _ us hl => match us, hl with | [_, _, _], _ => rfl,
    f_is_word, _, (fun_mk (st := s_is_word) l_is_word e_is_word k_is_word), PySem.W.mg_of X G a_is_word, ((fun_mk (st := s_is_word) l_is_word e_is_word k_is_word)).binds (ps := ["value"]) fun _ _ _ _ _ _ us hl => match us, hl with | [_], _ => rfl,
    f_is_value, _, (fun_mk (st := s_is_value) l_is_value e_is_value k_is_value), PySem.W.mg_of X G a_is_value, ((fun_mk (st := s_is_value) l_is_value e_is_value k_is_value)).binds (ps := ["value"]) fun _ _ _ _ _ _ us hl => match us, hl with | [_], _ => rfl,
    f_is_command, _, (fun_mk (st := s_is_command) l_is_command e_is_command k_is_command), PySem.W.mg_of X G a_is_command, ((fun_mk (st := s_is_command) l_is_command e_is_command k_is_command)).binds (ps := ["value"]) fun _ _ _ _ _ _ us hl => match us, hl with | [_], _ => rfl,
    f_is_try, _, (fun_mk (st := s_is_try) l_is_try e_is_try k_is_try), PySem.W.mg_of X G a_is_try, ((fun_mk (st := s_is_try) l_is_try e_is_try k_is_try)).binds (ps := ["value"]) fun _ _ _ _ _ _ us hl => match us, hl with | [_], _ => rfl,
    f_parts_of, _, (fun_mk (st := s_parts_of) l_parts_of e_parts_of k_parts_of), PySem.W.mg_of X G a_parts_of, ((fun_mk (st := s_parts_of) l_parts_of e_parts_of k_parts_of)).binds (ps := ["value", "depth"]) fun _ _ _ _ _ _ us hl => match us, hl with | [_, _], _ => rfl,
    f_is_program, _, (fun_mk (st := s_is_program) l_is_program e_is_program k_is_program), PySem.W.mg_of X G a_is_program, ((fun_mk (st := s_is_program) l_is_program e_is_program k_is_program)).binds (ps := ["value"]) fun _ _ _ _ _ _ us hl => match us, hl with | [_], _ => rfl,
    f_number_in, _, (fun_mk (st := s_number_in) l_number_in e_number_in k_number_in), PySem.W.mg_of X G a_number_in, ((fun_mk (st := s_number_in) l_number_in e_number_in k_number_in)).binds (ps := ["text"]) fun _ _ _ _ _ _ us hl => match us, hl with | [_], _ => rfl,
    f_command_in, _, (fun_mk (st := s_command_in) l_command_in e_command_in k_command_in), PySem.W.mg_of X G a_command_in, ((fun_mk (st := s_command_in) l_command_in e_command_in k_command_in)).binds (ps := ["text"]) fun _ _ _ _ _ _ us hl => match us, hl with | [_], _ => rfl,
    f_need_text, _, (fun_mk (st := s_need_text) l_need_text e_need_text k_need_text), PySem.W.mg_of X G a_need_text, ((fun_mk (st := s_need_text) l_need_text e_need_text k_need_text)).binds (ps := ["text"]) fun _ _ _ _ _ _ us hl => match us, hl with | [_], _ => rfl,
    f_command_end, _, (fun_mk (st := s_command_end) l_command_end e_command_end k_command_end), PySem.W.mg_of X G a_command_end, ((fun_mk (st := s_command_end) l_command_end e_command_end k_command_end)).binds (ps := ["text", "start"]) fun _ _ _ _ _ _ us hl => match us, hl with | [_, _], _ => rfl,
    f_item_at, _, (fun_mk (st := s_item_at) l_item_at e_item_at k_item_at), PySem.W.mg_of X G a_item_at, ((fun_mk (st := s_item_at) l_item_at e_item_at k_item_at)).binds (ps := ["text", "start", "depth"]) fun _ _ _ _ _ _ us hl => match us, hl with | [_, _, _], _ => rfl,
    f_program_at, _, (fun_mk (st := s_program_at) l_program_at e_program_at k_program_at), PySem.W.mg_of X G a_program_at, ((fun_mk (st := s_program_at) l_program_at e_program_at k_program_at)).binds (ps := ["text", "start", "depth"]) fun _ _ _ _ _ _ us hl => match us, hl with | [_, _, _], _ => rfl,
    f_read_program, _, (fun_mk (st := s_read_program) l_read_program e_read_program k_read_program), PySem.W.mg_of X G a_read_program, ((fun_mk (st := s_read_program) l_read_program e_read_program k_read_program)).binds (ps := ["text"]) fun _ _ _ _ _ _ us hl => match us, hl with | [_], _ => rfl,
    f_l_feed, _, (fun_mk (st := s_l_feed) l_l_feed e_l_feed k_l_feed), PySem.W.mg_of X G a_l_feed, ((fun_mk (st := s_l_feed) l_l_feed e_l_feed k_l_feed)).binds (ps := ["_law_script"]) fun _ _ _ _ _ _ us hl => match us, hl with | [_], _ => rfl,
    f_l_take, _, (fun_mk (st := s_l_take) l_l_take e_l_take k_l_take), PySem.W.mg_of X G a_l_take, ((fun_mk (st := s_l_take) l_l_take e_l_take k_l_take)).binds (ps := ["_law_feed_here", "_law_bound"]) fun _ _ _ _ _ _ us hl => match us, hl with | [_, _], _ => rfl,
    f_l_word, _, (fun_mk (st := s_l_word) l_l_word e_l_word k_l_word), PySem.W.mg_of X G a_l_word, ((fun_mk (st := s_l_word) l_l_word e_l_word k_l_word)).binds (ps := ["_law_feed_here"]) fun _ _ _ _ _ _ us hl => match us, hl with | [_], _ => rfl,
    f_l_number, _, (fun_mk (st := s_l_number) l_l_number e_l_number k_l_number), PySem.W.mg_of X G a_l_number, ((fun_mk (st := s_l_number) l_l_number e_l_number k_l_number)).binds (ps := ["_law_feed_here"]) fun _ _ _ _ _ _ us hl => match us, hl with | [_], _ => rfl,
    f_l_command, _, (fun_mk (st := s_l_command) l_l_command e_l_command k_l_command), PySem.W.mg_of X G a_l_command, ((fun_mk (st := s_l_command) l_l_command e_l_command k_l_command)).binds (ps := ["_law_feed_here", "_law_known"]) fun _ _ _ _ _ _ us hl => match us, hl with | [_, _], _ => rfl,
    f_l_is_word, _, (fun_mk (st := s_l_is_word) l_l_is_word e_l_is_word k_l_is_word), PySem.W.mg_of X G a_l_is_word, ((fun_mk (st := s_l_is_word) l_l_is_word e_l_is_word k_l_is_word)).binds (ps := ["_law_thing"]) fun _ _ _ _ _ _ us hl => match us, hl with | [_], _ => rfl,
    f_l_is_number, _, (fun_mk (st := s_l_is_number) l_l_is_number e_l_is_number k_l_is_number), PySem.W.mg_of X G a_l_is_number, ((fun_mk (st := s_l_is_number) l_l_is_number e_l_is_number k_l_is_number)).binds (ps := ["_law_thing"]) fun _ _ _ _ _ _ us hl => match us, hl with | [_], _ => rfl,
    f_l_is_command, _, (fun_mk (st := s_l_is_command) l_l_is_command e_l_is_command k_l_is_command), PySem.W.mg_of X G a_l_is_command, ((fun_mk (st := s_l_is_command) l_l_is_command e_l_is_command k_l_is_command)).binds (ps := ["_law_thing"]) fun _ _ _ _ _ _ us hl => match us, hl with | [_], _ => rfl,
    f_l_shown, _, (fun_mk (st := s_l_shown) l_l_shown e_l_shown k_l_shown), PySem.W.mg_of X G a_l_shown, ((fun_mk (st := s_l_shown) l_l_shown e_l_shown k_l_shown)).binds (ps := ["_law_row"]) fun _ _ _ _ _ _ us hl => match us, hl with | [_], _ => rfl,
    f_l_number_in, _, (fun_mk (st := s_l_number_in) l_l_number_in e_l_number_in k_l_number_in), PySem.W.mg_of X G a_l_number_in, ((fun_mk (st := s_l_number_in) l_l_number_in e_l_number_in k_l_number_in)).binds (ps := ["_law_part"]) fun _ _ _ _ _ _ us hl => match us, hl with | [_], _ => rfl,
    f_l_command_in, _, (fun_mk (st := s_l_command_in) l_l_command_in e_l_command_in k_l_command_in), PySem.W.mg_of X G a_l_command_in, ((fun_mk (st := s_l_command_in) l_l_command_in e_l_command_in k_l_command_in)).binds (ps := ["_law_words"]) fun _ _ _ _ _ _ us hl => match us, hl with | [_], _ => rfl,
    f_l_program, _, (fun_mk (st := s_l_program) l_l_program e_l_program k_l_program), PySem.W.mg_of X G a_l_program, ((fun_mk (st := s_l_program) l_l_program e_l_program k_l_program)).binds (ps := ["_law_feed_here", "_law_room", "_law_depth"]) fun _ _ _ _ _ _ us hl => match us, hl with | [_, _, _], _ => rfl,
    f_l_bent_text, _, (fun_mk (st := s_l_bent_text) l_l_bent_text e_l_bent_text k_l_bent_text), PySem.W.mg_of X G a_l_bent_text, ((fun_mk (st := s_l_bent_text) l_l_bent_text e_l_bent_text k_l_bent_text)).binds (ps := ["_law_feed_here", "_law_whole"]) fun _ _ _ _ _ _ us hl => match us, hl with | [_, _], _ => rfl,
    f_l_heard, _, (fun_mk (st := s_l_heard) l_l_heard e_l_heard k_l_heard), PySem.W.mg_of X G a_l_heard, ((fun_mk (st := s_l_heard) l_l_heard e_l_heard k_l_heard)).binds (ps := ["_law_ask"]) fun _ _ _ _ _ _ us hl => match us, hl with | [_], _ => rfl,
    f_l_program_text, _, (fun_mk (st := s_l_program_text) l_l_program_text e_l_program_text k_l_program_text), PySem.W.mg_of X G a_l_program_text, ((fun_mk (st := s_l_program_text) l_l_program_text e_l_program_text k_l_program_text)).binds (ps := ["_law_row"]) fun _ _ _ _ _ _ us hl => match us, hl with | [_], _ => rfl,
    f_l_try_in, _, (fun_mk (st := s_l_try_in) l_l_try_in e_l_try_in k_l_try_in), PySem.W.mg_of X G a_l_try_in, ((fun_mk (st := s_l_try_in) l_l_try_in e_l_try_in k_l_try_in)).binds (ps := ["_law_words", "_law_at", "_law_depth"]) fun _ _ _ _ _ _ us hl => match us, hl with | [_, _, _], _ => rfl,
    f_l_block_in, _, (fun_mk (st := s_l_block_in) l_l_block_in e_l_block_in k_l_block_in), PySem.W.mg_of X G a_l_block_in, ((fun_mk (st := s_l_block_in) l_l_block_in e_l_block_in k_l_block_in)).binds (ps := ["_law_words", "_law_at", "_law_depth"]) fun _ _ _ _ _ _ us hl => match us, hl with | [_, _, _], _ => rfl,
    f_l_size, _, (fun_mk (st := s_l_size) l_l_size e_l_size k_l_size), PySem.W.mg_of X G a_l_size, ((fun_mk (st := s_l_size) l_l_size e_l_size k_l_size)).binds (ps := ["_law_row"]) fun _ _ _ _ _ _ us hl => match us, hl with | [_], _ => rfl,
    f_l_due, _, (fun_mk (st := s_l_due) l_l_due e_l_due k_l_due), PySem.W.mg_of X G a_l_due, ((fun_mk (st := s_l_due) l_l_due e_l_due k_l_due)).binds (ps := ["_law_thing"]) fun _ _ _ _ _ _ us hl => match us, hl with | [_], _ => rfl,
    fa, _, (fun_mk (st := s_law) l_law e_law k_law), PySem.W.mg_of X G a_law, ((fun_mk (st := s_law) l_law e_law k_law)).binds (ps := ["_law_script"]) fun _ _ _ _ _ _ us hl => match us, hl with | [_], _ => rfl,
    c_law, P_law, ct_law_.1⟩, rfl, rfl, rfl, rfl⟩
  obtain ⟨T, e1, e2, ec_law, eP_law⟩ := T
  refine ⟨PySem.W.fnOf "law" "law" (defArgs s_law) (defBody s_law) (defScope s_law) .none kV_law dc_law pm_law an_law cd_law ct_law, [(c_law, P_law)], T.tb, ap_cons tt_law_.2 (ap_nil), ap_cons n_law (ap_nil), ap_cons tt_law_.1 (ap_nil), ?_, fun s u => .of_eq rfl, fun base _ _ hB => ?_⟩
  · exact ap_cons ⟨(c_law, P_law), List.mem_of_getElem? (i := 0) rfl, eP_law⟩ (ap_nil)
  have q := ok_law (P := P) (w := w) (base := base) T (by rw [ec_law, eP_law]; exact hB _ (List.mem_of_getElem? (i := 0) rfl)) holds
  rw [e1, e2] at q
  exact q
end
end Q82
open PySem PySem.W PyProof.Rows
set_option maxHeartbeats 0 in
theorem PySem.Challenge.cw_rewindplan_k82_programs_read_holds : PySem.Challenge.rw_rewindplan_k82_programs_read.Holds := by
  w_on; o_law; k_head; (case hw => w_witness2)
  k_fill
  refine PL.law_endT (l := PySem.Challenge.rw_rewindplan_k82_programs_read) (k := 22) (x := "_law_script") rfl rfl ⟨rfl, by decide, by decide⟩ (fun w h Y => PySem.W.km_in_of Y) ?F
  case F =>
    intro w mg fa h Y KX G hmg TT
    refine' Q82.fin KX G Q82.holds hmg TT ?hx_law ?z_ValueError ?z_abs ?z_all ?z_bool ?z_int ?z_isinstance ?z_len ?z_list ?z_range ?z_repr ?z_str ?z_sum ?z_tuple ?c_BACK ?c_DEEPEST_TRY ?c_DEL ?c_DIGITS ?c_ELSE ?c_END ?c_GREATEST_VALUE ?c_KEEP ?c_LETTERS ?c_LONGEST_WORD ?c_MARK ?c_MOST_DEPTH ?c_MOST_DIGITS ?c_MOST_TRIED_COMMANDS ?c_MOST_TRIES ?c_NOTHING ?c_SET ?c_TRY_programs ?c_TRY_reader ?xa_RewindError ?xa_InvalidState ?xa_InvalidScript ?xa_InvalidCommand ?xa_InvalidProgram ?xa_InvalidText ?xa_InvalidLine ?xa_Refused ?xa_Full ?xa_TooLong ?xa_TooLarge ?xi_InvalidText ?xl_InvalidText ?xe_InvalidText ?xk_InvalidText ?xt_InvalidText ?xb_InvalidText ?xch ?xf_position ?a_is_integer ?l_is_integer ?e_is_integer ?k_is_integer ?a_is_between ?l_is_between ?e_is_between ?k_is_between ?a_is_word ?l_is_word ?e_is_word ?k_is_word ?a_is_value ?l_is_value ?e_is_value ?k_is_value ?a_is_command ?l_is_command ?e_is_command ?k_is_command ?a_is_try ?l_is_try ?e_is_try ?k_is_try ?a_parts_of ?l_parts_of ?e_parts_of ?k_parts_of ?a_is_program ?l_is_program ?e_is_program ?k_is_program ?a_number_in ?l_number_in ?e_number_in ?k_number_in ?a_command_in ?l_command_in ?e_command_in ?k_command_in ?a_need_text ?l_need_text ?e_need_text ?k_need_text ?a_command_end ?l_command_end ?e_command_end ?k_command_end ?a_item_at ?l_item_at ?e_item_at ?k_item_at ?a_program_at ?l_program_at ?e_program_at ?k_program_at ?a_read_program ?l_read_program ?e_read_program ?k_read_program ?a_l_feed ?l_l_feed ?e_l_feed ?k_l_feed ?a_l_take ?l_l_take ?e_l_take ?k_l_take ?a_l_word ?l_l_word ?e_l_word ?k_l_word ?a_l_number ?l_l_number ?e_l_number ?k_l_number ?a_l_command ?l_l_command ?e_l_command ?k_l_command ?a_l_is_word ?l_l_is_word ?e_l_is_word ?k_l_is_word ?a_l_is_number ?l_l_is_number ?e_l_is_number ?k_l_is_number ?a_l_is_command ?l_l_is_command ?e_l_is_command ?k_l_is_command ?a_l_shown ?l_l_shown ?e_l_shown ?k_l_shown ?a_l_number_in ?l_l_number_in ?e_l_number_in ?k_l_number_in ?a_l_command_in ?l_l_command_in ?e_l_command_in ?k_l_command_in ?a_l_program ?l_l_program ?e_l_program ?k_l_program ?a_l_bent_text ?l_l_bent_text ?e_l_bent_text ?k_l_bent_text ?a_l_heard ?l_l_heard ?e_l_heard ?k_l_heard ?a_l_program_text ?l_l_program_text ?e_l_program_text ?k_l_program_text ?a_l_try_in ?l_l_try_in ?e_l_try_in ?k_l_try_in ?a_l_block_in ?l_l_block_in ?e_l_block_in ?k_l_block_in ?a_l_size ?l_l_size ?e_l_size ?k_l_size ?a_l_due ?l_l_due ?e_l_due ?k_l_due ?a_law ?l_law ?e_law ?k_law ?tc_law ?tl_law ?tv_law ?n_law
    (case hx_law => decide +kernel)
    (case z_ValueError => k_is)
    (case z_abs => k_is)
    (case z_all => k_is)
    (case z_bool => k_is)
    (case z_int => k_is)
    (case z_isinstance => k_is)
    (case z_len => k_is)
    (case z_list => k_is)
    (case z_range => k_is)
    (case z_repr => k_is)
    (case z_str => k_is)
    (case z_sum => k_is)
    (case z_tuple => k_is)
    (case c_BACK => k_is)
    (case c_DEEPEST_TRY => k_is)
    (case c_DEL => k_is)
    (case c_DIGITS => k_is)
    (case c_ELSE => k_is)
    (case c_END => k_is)
    (case c_GREATEST_VALUE => k_is)
    (case c_KEEP => k_is)
    (case c_LETTERS => k_is)
    (case c_LONGEST_WORD => k_is)
    (case c_MARK => k_is)
    (case c_MOST_DEPTH => k_is)
    (case c_MOST_DIGITS => k_is)
    (case c_MOST_TRIED_COMMANDS => k_is)
    (case c_MOST_TRIES => k_is)
    (case c_NOTHING => k_is)
    (case c_SET => k_is)
    (case c_TRY_programs => k_is)
    (case c_TRY_reader => k_is)
    (case xa_RewindError => k_is)
    (case xa_InvalidState => k_is)
    (case xa_InvalidScript => k_is)
    (case xa_InvalidCommand => k_is)
    (case xa_InvalidProgram => k_is)
    (case xa_InvalidText => k_is)
    (case xa_InvalidLine => k_is)
    (case xa_Refused => k_is)
    (case xa_Full => k_is)
    (case xa_TooLong => k_is)
    (case xa_TooLarge => k_is)
    (case xi_InvalidText => k_is)
    (case xl_InvalidText => k_is)
    (case xe_InvalidText => k_is)
    (case xk_InvalidText => k_is)
    (case xt_InvalidText => k_is)
    (case xb_InvalidText => kernel_rfl)
    (case xch => kernel_rfl)
    (case xf_position => kernel_rfl)
    (case a_is_integer => k_is)
    (case l_is_integer => k_is)
    (case e_is_integer => k_is)
    (case k_is_integer => k_is)
    (case a_is_between => k_is)
    (case l_is_between => k_is)
    (case e_is_between => k_is)
    (case k_is_between => k_is)
    (case a_is_word => k_is)
    (case l_is_word => k_is)
    (case e_is_word => k_is)
    (case k_is_word => k_is)
    (case a_is_value => k_is)
    (case l_is_value => k_is)
    (case e_is_value => k_is)
    (case k_is_value => k_is)
    (case a_is_command => k_is)
    (case l_is_command => k_is)
    (case e_is_command => k_is)
    (case k_is_command => k_is)
    (case a_is_try => k_is)
    (case l_is_try => k_is)
    (case e_is_try => k_is)
    (case k_is_try => k_is)
    (case a_parts_of => k_is)
    (case l_parts_of => k_is)
    (case e_parts_of => k_is)
    (case k_parts_of => k_is)
    (case a_is_program => k_is)
    (case l_is_program => k_is)
    (case e_is_program => k_is)
    (case k_is_program => k_is)
    (case a_number_in => k_is)
    (case l_number_in => k_is)
    (case e_number_in => k_is)
    (case k_number_in => k_is)
    (case a_command_in => k_is)
    (case l_command_in => k_is)
    (case e_command_in => k_is)
    (case k_command_in => k_is)
    (case a_need_text => k_is)
    (case l_need_text => k_is)
    (case e_need_text => k_is)
    (case k_need_text => k_is)
    (case a_command_end => k_is)
    (case l_command_end => k_is)
    (case e_command_end => k_is)
    (case k_command_end => k_is)
    (case a_item_at => k_is)
    (case l_item_at => k_is)
    (case e_item_at => k_is)
    (case k_item_at => k_is)
    (case a_program_at => k_is)
    (case l_program_at => k_is)
    (case e_program_at => k_is)
    (case k_program_at => k_is)
    (case a_read_program => k_is)
    (case l_read_program => k_is)
    (case e_read_program => k_is)
    (case k_read_program => k_is)
    (case a_l_feed => k_is)
    (case l_l_feed => k_is)
    (case e_l_feed => k_is)
    (case k_l_feed => k_is)
    (case a_l_take => k_is)
    (case l_l_take => k_is)
    (case e_l_take => k_is)
    (case k_l_take => k_is)
    (case a_l_word => k_is)
    (case l_l_word => k_is)
    (case e_l_word => k_is)
    (case k_l_word => k_is)
    (case a_l_number => k_is)
    (case l_l_number => k_is)
    (case e_l_number => k_is)
    (case k_l_number => k_is)
    (case a_l_command => k_is)
    (case l_l_command => k_is)
    (case e_l_command => k_is)
    (case k_l_command => k_is)
    (case a_l_is_word => k_is)
    (case l_l_is_word => k_is)
    (case e_l_is_word => k_is)
    (case k_l_is_word => k_is)
    (case a_l_is_number => k_is)
    (case l_l_is_number => k_is)
    (case e_l_is_number => k_is)
    (case k_l_is_number => k_is)
    (case a_l_is_command => k_is)
    (case l_l_is_command => k_is)
    (case e_l_is_command => k_is)
    (case k_l_is_command => k_is)
    (case a_l_shown => k_is)
    (case l_l_shown => k_is)
    (case e_l_shown => k_is)
    (case k_l_shown => k_is)
    (case a_l_number_in => k_is)
    (case l_l_number_in => k_is)
    (case e_l_number_in => k_is)
    (case k_l_number_in => k_is)
    (case a_l_command_in => k_is)
    (case l_l_command_in => k_is)
    (case e_l_command_in => k_is)
    (case k_l_command_in => k_is)
    (case a_l_program => k_is)
    (case l_l_program => k_is)
    (case e_l_program => k_is)
    (case k_l_program => k_is)
    (case a_l_bent_text => k_is)
    (case l_l_bent_text => k_is)
    (case e_l_bent_text => k_is)
    (case k_l_bent_text => k_is)
    (case a_l_heard => k_is)
    (case l_l_heard => k_is)
    (case e_l_heard => k_is)
    (case k_l_heard => k_is)
    (case a_l_program_text => k_is)
    (case l_l_program_text => k_is)
    (case e_l_program_text => k_is)
    (case k_l_program_text => k_is)
    (case a_l_try_in => k_is)
    (case l_l_try_in => k_is)
    (case e_l_try_in => k_is)
    (case k_l_try_in => k_is)
    (case a_l_block_in => k_is)
    (case l_l_block_in => k_is)
    (case e_l_block_in => k_is)
    (case k_l_block_in => k_is)
    (case a_l_size => k_is)
    (case l_l_size => k_is)
    (case e_l_size => k_is)
    (case k_l_size => k_is)
    (case a_l_due => k_is)
    (case l_l_due => k_is)
    (case e_l_due => k_is)
    (case k_l_due => k_is)
    (case a_law => k_is)
    (case l_law => k_is)
    (case e_law => k_is)
    (case k_law => k_is)
    (case tc_law => exact rfl)
    (case tl_law => k_is)
    (case tv_law => exact rfl)
    (case n_law => kernel_rfl)

