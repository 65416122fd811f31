import PyProof.Rows.All
import HandS.ForMost
import HandS.EndBits
import HandS.Exc
import HandS.ExcOwn
import HandS.WordsExc
import HandS.TupAny
import HandS.Flow
import HandS.Lambda
import HandS.TupMul
import HandS.IsInst
import HandS.Text
import HandS.Style
import HandS.Conv
import HandS.Wide
import HandS.NoneIn
import HandS.Iter
import HandS.Comp
import HandS.Dict
import KE.GoesMore
import HandS.More
import PyProof.DictDisplay
import PyProof.DictUpdate
import KE.KDictPairs
import HandS.SortRule
import PyProof.Rows.SortKeyStr
import HandS.Zip
import HandS.ListItems
import KE.KExcInit
import HandS.ExcInit
import HandS.ExcIs
import HandS.ExcField
import KE.KTryMore
import HandS.ExcValue
import KE.KExcIs
import HandS.EndTab
import KE.DataFind
import HandS.Deep
import HandS.RaiseMore
import HandS.SortKw
import KE.DataMinMax
import PyProof.Rows.TupReads
import PyProof.Rows.Shapes
import HandS.List
import HandS.Star
import HandS.Property
import HandS.ClsMeth
import HandS.Defaults
import KE.KUnpackStar
import KE.GoesEnumKw
import PySem.Challenge.RW_rewindplan_k81_states_read
set_option Elab.async false
set_option linter.all false
set_option maxRecDepth 100000
/-! A layer over the hand layer: values as data, names as data, one rule a construct; what a def does is a function over data (W: a wish transformer). -/
namespace PL
open PySem PySem.Spec PyProof.Rows L2

/-- data -/
inductive D where
  | non | bl (b : Bool) | int (i : Int) | str (x : Str) | lst (xs : List D) | tup (xs : List D) | dic (kvs : List (Key × D)) | ins (c f : Str) (x : D)

/-- data, or an object that is changed: a list, a dict -/
inductive Ob where
  | d (x : D) | o (a : Addr)
inductive Nd where
  | lst (xs : List Ob) | dic (kvs : List (Key × Ob))
/-- how many draws there were at most; what the objects hold that are changed -/
structure Nt where
  n : Nat
  μ : Addr → Option Nd

/-- an error: its class's name, its fields -/
abbrev Exc := Str × List (Str × D)

abbrev n0 : Nt := ⟨0, fun _ => none⟩
abbrev W (α : Type) := Nt → (α → Nt → Prop) → (Exc → Nt → Prop) → Prop
section
variable {α β : Type}
def ret (a : α) : W α := fun n P _ => P a n
def bnd (m : W α) (f : α → W β) : W β := fun n P X => m n (fun a k => f a k P X) X
def stuck : W α := fun _ _ _ => False
def rse (e : Exc) : W α := fun n _ X => X e n
def grd (p : Prop) (m : W α) : W α := fun n P X => p ∧ m n P X
end

/-- what a name holds: nothing yet, data that stays, a list or dict of the def's own, the source of draws, an error that was caught, a lambda (its object, its code, its maker's names, what of them is data) -/
inductive SV where
  | un | d (x : D) | own (xs : List D) | ownK (kvs : List (Key × D)) | pen | exc (x : Exc) | lam (f c : Addr) (q : Str) (σ : L2.St) (ds : List (Option D)) | o (a : Addr)
abbrev Env := List SV
def SV.isOwn : SV → Bool
  | .own _ => true
  | .ownK _ => true
  | _ => false
def SV.bor : SV → SV
  | .own xs => .d (.lst xs)
  | .ownK kvs => .d (.dic kvs)
  | s => s
def bor (ρ : Env) : Env := ρ.map SV.bor

/-- a tuple of the written part -/
def WrT (K : PySem.W.Frag) (a : Addr) (xs : List V) : Prop :=
  ∃ (o : Obj) (its : Array Value) (n : Nat), K.lookup a = some o ∧ o.cls = .type "tuple" ∧ o.dict = none ∧ o.data = .seq its n ∧ its.size ≤ sizeLine ∧ Vals xs its.toList
def RdL (S : Addr → Prop) (H : Hp) (a : Addr) (xs : List V) : Prop := S a ∧ H a = some (.lst xs)
/-- a tuple without a dict of its own -/
def PlT (H : Hp) (a : Addr) (xs : List V) : Prop := ∃ o, H a = some (.frz o (.tup xs)) ∧ o.dict = none
def RdT (K : PySem.W.Frag) (S : Addr → Prop) (H : Hp) (a : Addr) (xs : List V) : Prop := (S a ∧ PlT H a xs) ∨ WrT K a xs

/-- an own class whose instances have one field that is never changed -/
structure InsC (K : PySem.W.Frag) (c f : Str) (C : Addr) : Prop where
  at_ : PySem.W.nsIn K mainGlobals c = some (some (.ref C))
  cls : Cls K C
  no : NoAttr K C f
  ca : PySem.W.findIn K (.ref C) "__class__" = some (some (.builtin "object.__class__"))
  cn : PySem.W.specialIn K (.builtin "object.__class__") "__get__" = some (some (.builtin "getset_descriptor.__get__"))
  ct : PySem.W.takesIn K (.builtin "object.__class__") = some true
  cm : PySem.W.mroIn K C (.type "object") = some true
  kit : ∀ T ∈ ["int", "bool", "str", "tuple", "list", "dict"], PySem.W.kitOne K (.ref C) (.type T) = some false
mutual
def Rep (K : PySem.W.Frag) (S : Addr → Prop) (H : Hp) : D → V → Prop
  | .non, v => v = .non
  | .bl b, v => v = .bl b
  | .int i, v => v = .int i
  | .str x, v => v = .str x ∧ x.length ≤ sizeLine
  | .lst xs, v => ∃ a vs, v = .ref a ∧ RdL S H a vs ∧ xs.length ≤ sizeLine ∧ Reps K S H xs vs
  | .tup xs, v => ∃ a vs, v = .ref a ∧ RdT K S H a vs ∧ xs.length ≤ sizeLine ∧ Reps K S H xs vs
  | .dic kvs, v => ∃ a kws, v = .ref a ∧ (S a ∧ Rd H a (.dK kws)) ∧ RepK K S H kvs kws
  | .ins c f x, v => ∃ a C dx w, v = .ref a ∧ InsC K c f C ∧ (S a ∧ H a = some (.ins C dx [(f, w)])) ∧ Rep K S H x w
def Reps (K : PySem.W.Frag) (S : Addr → Prop) (H : Hp) : List D → List V → Prop
  | [], vs => vs = []
  | x :: xs, vs => ∃ v ws, vs = v :: ws ∧ Rep K S H x v ∧ Reps K S H xs ws
def RepK (K : PySem.W.Frag) (S : Addr → Prop) (H : Hp) : List (Key × D) → List (Key × V) → Prop
  | [], vs => vs = []
  | (k, x) :: xs, vs => ∃ v ws, vs = (k, v) :: ws ∧ Rep K S H x v ∧ RepK K S H xs ws
end

/-- what stays -/
structure Grow (S S' : Addr → Prop) (H H' : Hp) : Prop where
  sub : ∀ a, S a → S' a
  eq : ∀ a, S a → H' a = H a
theorem Grow.refl {S : Addr → Prop} {H : Hp} : Grow S S H H := ⟨fun _ h => h, fun _ _ => rfl⟩
theorem Grow.trans {S S1 S2 : Addr → Prop} {H H1 H2 : Hp} (a : Grow S S1 H H1) (b : Grow S1 S2 H1 H2) : Grow S S2 H H2 :=
  ⟨fun x h => b.sub x (a.sub x h), fun x h => (b.eq x (a.sub x h)).trans (a.eq x h)⟩

section
variable {K : PySem.W.Frag} {S S' : Addr → Prop} {H H' : Hp}
theorem Rd.to {a : Addr} {u : HO} (e : H' a = H a) (h : Rd H a u) : Rd H' a u := by
  unfold Rd at *
  rw [e]
  exact h
theorem RdL.grow {a : Addr} {xs : List V} (g : Grow S S' H H') (h : RdL S H a xs) : RdL S' H' a xs := ⟨g.sub a h.1, (g.eq a h.1).trans h.2⟩
theorem RdT.grow {a : Addr} {xs : List V} (g : Grow S S' H H') (h : RdT K S H a xs) : RdT K S' H' a xs :=
  h.elim (fun ⟨z, o, e, d⟩ => .inl ⟨g.sub a z, o, (g.eq a z).trans e, d⟩) .inr
theorem RdL.sq {a : Addr} {xs : List V} (h : RdL S H a xs) : SqL K H a xs := .inl (.inl h.2)
theorem RdT.sq {a : Addr} {xs : List V} (h : RdT K S H a xs) : SqT K H a xs := h.elim (fun ⟨_, o, e, _⟩ => .inl (.inr ⟨o, e⟩)) fun ⟨o, its, n, h1, h2, _, h3⟩ => .inr ⟨o, its, n, h1, h2, h3⟩
mutual
theorem Rep.grow (g : Grow S S' H H') : ∀ (d : D) (v : V), Rep K S H d v → Rep K S' H' d v
  | .non, _, h => h
  | .bl _, _, h => h
  | .int _, _, h => h
  | .str _, _, h => h
  | .lst xs, _, h => by
    obtain ⟨a, vs, e, r, z, q⟩ := h
    exact ⟨a, vs, e, r.grow g, z, Reps.grow g xs vs q⟩
  | .tup xs, _, h => by
    obtain ⟨a, vs, e, r, z, q⟩ := h
    exact ⟨a, vs, e, r.grow g, z, Reps.grow g xs vs q⟩
  | .dic kvs, _, h => by
    obtain ⟨a, kws, e, ⟨r, r2⟩, q⟩ := h
    exact ⟨a, kws, e, ⟨g.sub a r, Rd.to (g.eq a r) r2⟩, RepK.grow g kvs kws q⟩
  | .ins _ _ x, _, h => by
    obtain ⟨a, C, dx, w, e, i, ⟨r, r2⟩, q⟩ := h
    exact ⟨a, C, dx, w, e, i, ⟨g.sub a r, (g.eq a r).trans r2⟩, Rep.grow g x w q⟩
theorem Reps.grow (g : Grow S S' H H') : ∀ (xs : List D) (vs : List V), Reps K S H xs vs → Reps K S' H' xs vs
  | [], _, h => h
  | x :: xs, _, h => by
    obtain ⟨v, ws, e, r, q⟩ := h
    exact ⟨v, ws, e, Rep.grow g x v r, Reps.grow g xs ws q⟩
theorem RepK.grow (g : Grow S S' H H') : ∀ (xs : List (Key × D)) (vs : List (Key × V)), RepK K S H xs vs → RepK K S' H' xs vs
  | [], _, h => h
  | (k, x) :: xs, _, h => by
    obtain ⟨v, ws, e, r, q⟩ := h
    exact ⟨v, ws, e, Rep.grow g x v r, RepK.grow g xs ws q⟩
end
theorem Reps.len : ∀ {xs : List D} {vs : List V}, Reps K S H xs vs → vs.length = xs.length
  | [], _, h => by
    have e : _ = [] := h
    rw [e]
    rfl
  | _ :: xs, _, h => by
    obtain ⟨v, ws, rfl, _, q⟩ := h
    show ws.length + 1 = xs.length + 1
    rw [Reps.len q]
theorem Reps.get : ∀ {xs : List D} {vs : List V} {i : Nat} {v : V}, Reps K S H xs vs → vs[i]? = some v → ∃ x, xs[i]? = some x ∧ Rep K S H x v
  | [], _, i, v, h, e => by
    have e1 : _ = [] := h
    rw [e1] at e
    cases e
  | x :: xs, _, 0, v, h, e => by
    obtain ⟨w, ws, rfl, r, _⟩ := h
    cases e
    exact ⟨x, rfl, r⟩
  | x :: xs, _, i + 1, v, h, e => by
    obtain ⟨w, ws, rfl, _, q⟩ := h
    exact Reps.get (i := i) q e
theorem Reps.at : ∀ {xs : List D} {vs : List V} {i : Nat} {x : D}, Reps K S H xs vs → xs[i]? = some x → ∃ v, vs[i]? = some v ∧ Rep K S H x v
  | [], _, i, x, h, e => by cases e
  | y :: xs, _, 0, x, h, e => by
    obtain ⟨w, ws, rfl, r, _⟩ := h
    cases e
    exact ⟨w, rfl, r⟩
  | y :: xs, _, i + 1, x, h, e => by
    obtain ⟨w, ws, rfl, _, q⟩ := h
    exact Reps.at (i := i) q e
theorem Reps.app : ∀ {xs ys : List D} {vs ws : List V}, Reps K S H xs vs → Reps K S H ys ws → Reps K S H (xs ++ ys) (vs ++ ws)
  | [], ys, vs, ws, h, q => by
    have e : vs = [] := h
    rw [e]
    exact q
  | x :: xs, ys, vs, ws, h, q => by
    obtain ⟨v, us, rfl, r, t⟩ := h
    exact ⟨v, us ++ ws, rfl, r, Reps.app t q⟩
theorem Reps.one {x : D} {v : V} (r : Rep K S H x v) : Reps K S H [x] [v] := ⟨v, [], rfl, r, rfl⟩
theorem Reps.nil : Reps K S H [] [] := rfl
theorem Reps.cons {x : D} {v : V} {xs : List D} {vs : List V} (r : Rep K S H x v) (q : Reps K S H xs vs) : Reps K S H (x :: xs) (v :: vs) := ⟨v, vs, rfl, r, q⟩
theorem Reps.drop : ∀ (n : Nat) {xs : List D} {vs : List V}, Reps K S H xs vs → Reps K S H (xs.drop n) (vs.drop n)
  | 0, _, _, h => h
  | n + 1, [], vs, h => by
    have e : vs = [] := h
    rw [e]
    rfl
  | n + 1, x :: xs, _, h => by
    obtain ⟨v, us, rfl, _, t⟩ := h
    exact Reps.drop n t
theorem Reps.take : ∀ (n : Nat) {xs : List D} {vs : List V}, Reps K S H xs vs → Reps K S H (xs.take n) (vs.take n)
  | 0, _, _, h => rfl
  | n + 1, [], vs, h => by
    have e : vs = [] := h
    rw [e]
    rfl
  | n + 1, x :: xs, _, h => by
    obtain ⟨v, us, rfl, r, t⟩ := h
    exact ⟨v, us.take n, rfl, r, Reps.take n t⟩
theorem Reps.set : ∀ (i : Nat) {xs : List D} {vs : List V} {x : D} {v : V}, Reps K S H xs vs → Rep K S H x v → Reps K S H (xs.set i x) (vs.set i v)
  | _, [], vs, x, v, h, _ => by
    have e : vs = [] := h
    rw [e]
    rfl
  | 0, y :: xs, _, x, v, h, r => by
    obtain ⟨w, us, rfl, _, t⟩ := h
    exact ⟨v, us, rfl, r, t⟩
  | i + 1, y :: xs, _, x, v, h, r => by
    obtain ⟨w, us, rfl, q, t⟩ := h
    exact ⟨w, us.set i v, rfl, q, Reps.set i t r⟩
theorem Reps.rev : ∀ {xs : List D} {vs : List V}, Reps K S H xs vs → Reps K S H xs.reverse vs.reverse
  | [], vs, h => by
    have e : vs = [] := h
    rw [e]
    rfl
  | x :: xs, _, h => by
    obtain ⟨v, us, rfl, r, t⟩ := h
    rw [List.reverse_cons, List.reverse_cons]
    exact Reps.app (Reps.rev t) (Reps.one r)
end

/-- the source of draws: what its two objects hold after at most n draws; the tables of code objects (with the name of the code in them); the module's names -/
structure PenK where
  inv : Hp → Addr → Addr → Nat → Prop
  dep : ∀ {H H' : Hp} {a b : Addr} {n : Nat}, inv H a b n → H' a = H a → H' b = H b → inv H' a b n
  there : ∀ {H : Hp} {a b : Addr} {n : Nat}, inv H a b n → H a ≠ none ∧ H b ≠ none
  isL : ∀ {H : Hp} {a b : Addr} {n : Nat}, inv H a b n → (∃ xs, H a = some (.lst xs)) ∧ ∃ xs, H b = some (.lst xs)
  tab : List (Addr × Str) := []
  mg : Str → Option Value := fun _ => none
  chg : Bool := false

/-- an error as it lies in the heap -/
def RepX (K : PySem.W.Frag) (mg : Str → Option Value) (S : Addr → Prop) (H : Hp) (x : Exc) (cls : Value) (dd : Option Addr) : Prop :=
  ∃ A : Addr, mg x.1 = some (.ref A) ∧ cls = .ref A ∧ ((x.2 = [] ∧ dd = none) ∨ ∃ d fv, dd = some d ∧ S d ∧ H d = some (.xd fv) ∧ Paired (fun (p : Str × D) (q : Str × V) => p.1 = q.1 ∧ Rep K S H p.2 q.2) x.2 fv)
theorem repX_pair {K : PySem.W.Frag} {S S' : Addr → Prop} {H H' : Hp} (f : ∀ d v, Rep K S H d v → Rep K S' H' d v) : ∀ {xs : List (Str × D)} {fv : List (Str × V)}, Paired (fun (p : Str × D) (q : Str × V) => p.1 = q.1 ∧ Rep K S H p.2 q.2) xs fv → Paired (fun (p : Str × D) (q : Str × V) => p.1 = q.1 ∧ Rep K S' H' p.2 q.2) xs fv
  | _, _, .nil => .nil
  | _, _, .cons h t => .cons ⟨h.1, f _ _ h.2⟩ (repX_pair f t)
theorem RepX.grow {K : PySem.W.Frag} {mg : Str → Option Value} {S S' : Addr → Prop} {H H' : Hp} {x : Exc} {cls : Value} {dd : Option Addr} (g : Grow S S' H H') (h : RepX K mg S H x cls dd) : RepX K mg S' H' x cls dd := by
  obtain ⟨A, h1, h2, h3⟩ := h
  refine ⟨A, h1, h2, h3.imp id fun ⟨d, fv, e, hs, hd, p⟩ => ⟨d, fv, e, g.sub d hs, (g.eq d hs).trans hd, repX_pair (fun d v r => Rep.grow g d v r) p⟩⟩
/-- an error object that was caught -/
def ErrO (cls : Value) (dd : Option Addr) (a : Addr) : HO := .ext fun h => ∃ (oe : Obj) (vs : Array Value), h.get? a = some oe ∧ Zc cls dd oe ∧ oe.data = .fields vs
/-- a table of code objects: those that it tells stay -/
def TabI (S : Addr → Prop) (H : Hp) (P : Addr) (q : Str) : Prop := ∃ ps : Array Value, H P = some (.tbl ps) ∧ TriplesOk ps.toList ∧ ∀ (pos : Pos) (cv : Value), codeAmong pos ps.toList = some cv → ∃ c, cv = .ref c ∧ S c ∧ H c = some (LamX.CodeO c q)
theorem TabI.grow {S S' : Addr → Prop} {H H' : Hp} {P : Addr} {q : Str} (g : Grow S S' H H') (e : H' P = H P) (h : TabI S H P q) : TabI S' H' P q := by
  obtain ⟨ps, h1, h2, h3⟩ := h
  refine ⟨ps, e.trans h1, h2, fun pos cv z => ?_⟩
  obtain ⟨c, e1, e2, e3⟩ := h3 pos cv z
  exact ⟨c, e1, g.sub c e2, (g.eq c e2).trans e3⟩
theorem TabI.there {S : Addr → Prop} {H : Hp} {P : Addr} {q : Str} (h : TabI S H P q) : H P ≠ none := by
  obtain ⟨ps, h1, _⟩ := h
  rw [h1]
  exact fun z => nomatch z
/-- what a lambda's body may read -/
def LamOk (K : PySem.W.Frag) (S : Addr → Prop) (H : Hp) (c : Addr) (q : Str) (σ : L2.St) (ds : List (Option D)) : Prop :=
  S c ∧ H c = some (LamX.CodeO c q) ∧ ds.length = σ.length ∧ ∀ (i : Nat) (x : D), ds[i]? = some (some x) → ∃ v, (σ[i]?).join = some v ∧ Rep K S H x v
theorem LamOk.grow {K : PySem.W.Frag} {S S' : Addr → Prop} {H H' : Hp} {c : Addr} {q : Str} {σ : L2.St} {ds : List (Option D)} (g : Grow S S' H H') (h : LamOk K S H c q σ ds) : LamOk K S' H' c q σ ds := by
  obtain ⟨h1, h2, h3, h4⟩ := h
  refine ⟨g.sub c h1, (g.eq c h1).trans h2, h3, fun i x e => ?_⟩
  obtain ⟨v, e1, r⟩ := h4 i x e
  exact ⟨v, e1, Rep.grow g x v r⟩

def D.sc : D → Bool
  | .non => true
  | .bl _ => true
  | .int _ => true
  | .str _ => true
  | _ => false
theorem Rep.sc {K : PySem.W.Frag} {S S' : Addr → Prop} {H H' : Hp} {d : D} {v : V} (h : d.sc = true) (r : Rep K S H d v) : Rep K S' H' d v := by
  cases d <;> first | exact r | cases h
/-- data in an object that is changed: without parts -/
def RepO (K : PySem.W.Frag) (S : Addr → Prop) (H : Hp) : Ob → V → Prop
  | .d x, v => x.sc = true ∧ Rep K S H x v
  | .o a, v => v = .ref a
theorem RepO.move {K : PySem.W.Frag} {S S' : Addr → Prop} {H H' : Hp} {x : Ob} {v : V} (h : RepO K S H x v) : RepO K S' H' x v := by
  cases x with
  | d x => exact ⟨h.1, h.2.sc h.1⟩
  | o a => exact h
/-- what an object that is changed holds -/
def NdOk (K : PySem.W.Frag) (S : Addr → Prop) (H : Hp) (a : Addr) : Nd → Prop
  | .lst xs => ∃ vs, H a = some (.lst vs) ∧ xs.length ≤ sizeLine ∧ Paired (RepO K S H) xs vs
  | .dic kvs => ∃ kws, H a = some (.dK kws) ∧ Paired (fun (p : Key × Ob) (q : Key × V) => p.1 = q.1 ∧ RepO K S H p.2 q.2) kvs kws
theorem paired_imp {α β : Type} {r s : α → β → Prop} (f : ∀ a b, r a b → s a b) : ∀ {xs : List α} {ys : List β}, Paired r xs ys → Paired s xs ys
  | _, _, .nil => .nil
  | _, _, .cons h t => .cons (f _ _ h) (paired_imp f t)
theorem NdOk.move {K : PySem.W.Frag} {S S' : Addr → Prop} {H H' : Hp} {a : Addr} {nd : Nd} (e : H' a = H a) (h : NdOk K S H a nd) : NdOk K S' H' a nd := by
  cases nd with
  | lst xs => obtain ⟨vs, e1, z, r⟩ := h; exact ⟨vs, e.trans e1, z, paired_imp (fun _ _ h => h.move) r⟩
  | dic kvs => obtain ⟨kws, e1, r⟩ := h; exact ⟨kws, e.trans e1, paired_imp (fun _ _ h => ⟨h.1, h.2.move⟩) r⟩
theorem NdOk.grow {K : PySem.W.Frag} {S S' : Addr → Prop} {H H' : Hp} {a : Addr} {nd : Nd} (g : Grow S S' H H') (e : H' a = H a) (h : NdOk K S H a nd) : NdOk K S' H' a nd := h.move e
theorem NdOk.there {K : PySem.W.Frag} {S : Addr → Prop} {H : Hp} {a : Addr} {nd : Nd} (h : NdOk K S H a nd) : H a ≠ none := by
  cases nd with
  | lst xs => obtain ⟨vs, e1, _⟩ := h; rw [e1]; exact fun z => nomatch z
  | dic kvs => obtain ⟨kws, e1, _⟩ := h; rw [e1]; exact fun z => nomatch z
/-- the ghost: what stays, the heap at the entry, the source of draws, what is never among what stays -/
structure C where
  S : Addr → Prop
  H0 : Hp
  pen : Option (Addr × Addr)
  no : Addr → Prop
  mu : Addr → Prop := fun _ => False
/-- the source of draws and the tables -/
def PenK.pent (G : PenK) (c : C) (a : Addr) : Prop := (∃ p, c.pen = some p ∧ (a = p.1 ∨ a = p.2)) ∨ ∃ q ∈ G.tab, a = q.1
/-- what may be changed beneath the frame -/
def PenK.pens (G : PenK) (c : C) (a : Addr) : Prop := G.pent c a ∨ c.mu a
abbrev C.to (c : C) (S' : Addr → Prop) : C := { c with S := S' }
def Young (c : C) (n : Nt) (a : Addr) : Prop := ¬ c.S a ∧ c.H0 a = none ∧ n.μ a = none
def slot (σ : L2.St) (i : Nat) : Option V := (σ[i]?).join

def SlotOk (G : PenK) (K : PySem.W.Frag) (c : C) (H : Hp) : SV → Option V → Prop
  | .un, _ => True
  | .d x, o => ∃ v, o = some v ∧ Rep K c.S H x v
  | .own xs, o => ∃ a vs, o = some (.ref a) ∧ H a = some (.lst vs) ∧ xs.length ≤ sizeLine ∧ Reps K c.S H xs vs
  | .ownK kvs, o => ∃ a kws, o = some (.ref a) ∧ H a = some (.dK kws) ∧ RepK K c.S H kvs kws
  | .pen, o => ∃ p, c.pen = some p ∧ o = some (.ref p.1)
  | .exc x, o => ∃ a cls dd, o = some (.ref a) ∧ c.S a ∧ H a = some (ErrO cls dd a) ∧ RepX K G.mg c.S H x cls dd
  | .lam f b q σ ds, o => o = some (.ref f) ∧ LamOk K c.S H b q σ ds
  | .o a, o => o = some (.ref a)

structure SI (G : PenK) (K : PySem.W.Frag) (c : C) (σ : L2.St) (H : Hp) (ρ : Env) (n : Nt) : Prop where
  len : ρ.length = σ.length
  slots : ∀ i sv, ρ[i]? = some sv → SlotOk G K c H sv (slot σ i)
  own : ∀ i sv a, ρ[i]? = some sv → sv.isOwn = true → slot σ i = some (.ref a) → Young c n a
  apart : ∀ i j sv sv' a, i ≠ j → ρ[i]? = some sv → ρ[j]? = some sv' → sv.isOwn = true → sv'.isOwn = true → slot σ i = some (.ref a) → slot σ j = some (.ref a) → False
  dom : ∀ a, c.S a → H a ≠ none
  fr : ∀ a o, c.H0 a = some o → ¬ G.pens c a → H a = some o
  pen : ∀ p, c.pen = some p → G.inv H p.1 p.2 n.n ∧ ¬ c.S p.1 ∧ ¬ c.S p.2 ∧ c.H0 p.1 ≠ none ∧ c.H0 p.2 ≠ none
  no : ∀ a, c.no a → ¬ c.S a ∧ c.H0 a ≠ none
  tab : ∀ q ∈ G.tab, c.no q.1 ∧ TabI c.S H q.1 q.2
  mu : ∀ a nd, n.μ a = some nd → NdOk K c.S H a nd ∧ ¬ c.S a ∧ (c.mu a ∨ c.H0 a = none) ∧ ¬ G.pent c a
  mu0 : ∀ a, c.mu a → n.μ a ≠ none ∧ c.H0 a ≠ none
  mz : G.chg = false → ∀ a, n.μ a = none

theorem slot_set_same {σ : L2.St} {i : Nat} {o : Option V} (h : i < σ.length) : slot (σ.set i o) i = o := by
  unfold slot
  rw [List.getElem?_set_self h]
  rfl
theorem slot_set_ne {σ : L2.St} {i j : Nat} {o : Option V} (h : i ≠ j) : slot (σ.set i o) j = slot σ j := by
  unfold slot
  rw [List.getElem?_set_ne h]
theorem slot_some {σ : L2.St} {i : Nat} {v : V} (h : slot σ i = some v) : σ[i]? = some (some v) := by
  unfold slot at h
  cases e : σ[i]? with
  | none => rw [e] at h; cases h
  | some o =>
    rw [e] at h
    have h2 : o = some v := h
    rw [h2]

section
variable {G : PenK} {K : PySem.W.Frag} {c : C} {σ : L2.St} {H H' : Hp} {ρ : Env} {n : Nt}
/-- what was new at the entry's heap is no source of draws -/
theorem SI.penOld (I : SI G K c σ H ρ n) {a : Addr} (h : c.H0 a = none) : ¬ G.pens c a := fun z => by
  rcases z with (⟨p, e, z⟩ | ⟨q, e, z⟩) | z
  · obtain ⟨_, _, _, h1, h2⟩ := I.pen p e
    rcases z with z | z
    · exact h1 (z ▸ h)
    · exact h2 (z ▸ h)
  · exact (I.no _ (I.tab q e).1).2 (z ▸ h)
  · exact (I.mu0 a z).2 h
/-- a table is none of what stays, nor new -/
theorem SI.tabN (I : SI G K c σ H ρ n) {q : Addr × Str} (h : q ∈ G.tab) : ¬ c.S q.1 ∧ c.H0 q.1 ≠ none ∧ H q.1 ≠ none := ⟨(I.no _ (I.tab q h).1).1, (I.no _ (I.tab q h).1).2, (I.tab q h).2.there⟩
/-- a free address is free at the entry too -/
theorem SI.freeOld (I : SI G K c σ H ρ n) {a : Addr} (h : H a = none) : c.H0 a = none := by
  cases e : c.H0 a with
  | none => rfl
  | some o =>
    by_cases hp : G.pens c a
    · rcases hp with (⟨p, e2, z⟩ | ⟨q, e2, z⟩) | z
      · obtain ⟨k1, k2⟩ := G.there (I.pen p e2).1
        rcases z with z | z
        · rw [z] at h; exact absurd h k1
        · rw [z] at h; exact absurd h k2
      · exact absurd (z ▸ h) (I.tabN e2).2.2
      · cases e : n.μ a with
        | none => exact absurd e (I.mu0 a z).1
        | some nd => exact absurd h (I.mu a nd e).1.there
    · have := I.fr a o e hp
      rw [h] at this
      cases this
theorem SI.freeM (I : SI G K c σ H ρ n) {a : Addr} (h : H a = none) : n.μ a = none := by
  cases e : n.μ a with
  | none => rfl
  | some nd => exact absurd h (I.mu a nd e).1.there
/-- what is changed is none of what stays -/
theorem SI.muS (I : SI G K c σ H ρ n) {a : Addr} (h : n.μ a ≠ none) : ¬ c.S a ∧ H a ≠ none := by
  obtain ⟨nd, e⟩ := Option.ne_none_iff_exists'.mp h
  exact ⟨(I.mu a nd e).2.1, (I.mu a nd e).1.there⟩
theorem SI.freeS (I : SI G K c σ H ρ n) {a : Addr} (h : H a = none) : ¬ c.S a := fun z => I.dom a z h
theorem SlotOk.grow {S' : Addr → Prop} (g : Grow c.S S' H H') {o : Option V} (ho : ∀ a, o = some (.ref a) → sv.isOwn = true → H' a = H a) (h : SlotOk G K c H sv o) : SlotOk G K (c.to S') H' sv o := by
  cases sv with
  | un => trivial
  | d x => obtain ⟨v, e, r⟩ := h; exact ⟨v, e, Rep.grow g x v r⟩
  | own xs => obtain ⟨a, vs, e, r, z, q⟩ := h; exact ⟨a, vs, e, (ho a e rfl).trans r, z, Reps.grow g xs vs q⟩
  | ownK kvs => obtain ⟨a, vs, e, r, q⟩ := h; exact ⟨a, vs, e, (ho a e rfl).trans r, RepK.grow g kvs vs q⟩
  | pen => exact h
  | exc x => obtain ⟨a, cls, dd, e, hs, ha, r⟩ := h; exact ⟨a, cls, dd, e, g.sub a hs, (g.eq a hs).trans ha, r.grow g⟩
  | lam f b q σ ds => exact ⟨h.1, h.2.grow g⟩
  | o a => exact h
/-- a new object is laid and stays -/
theorem SI.laid (I : SI G K c σ H ρ n) {p : Addr} {o : HO} (hp : H p = none) : SI G K (c.to fun a => c.S a ∨ a = p) σ (upd H p o) ρ n ∧ Grow c.S (fun a => c.S a ∨ a = p) H (upd H p o) := by
  have ne : ∀ a, H a ≠ none → a ≠ p := fun a h z => h (z ▸ hp)
  have g : Grow c.S (fun a => c.S a ∨ a = p) H (upd H p o) := ⟨fun _ h => .inl h, fun a h => upd_ne (ne a (I.dom a h))⟩
  refine ⟨⟨I.len, fun i sv e => (I.slots i sv e).grow g (fun a ea ho => upd_ne (ne a ?_)), fun i sv a e ho es => ?_, I.apart, fun a h => ?_, fun a u e hn => ?_, fun q e => ?_, fun a h => ⟨fun z => z.elim (I.no a h).1 fun z => (I.no a h).2 (z ▸ I.freeOld hp), (I.no a h).2⟩, fun q e => ⟨(I.tab q e).1, (I.tab q e).2.grow g (upd_ne (ne _ (I.tabN e).2.2))⟩, fun a nd e => ?_, I.mu0, I.mz⟩, g⟩
  · have h := I.slots i sv e
    cases sv with
    | own xs =>
      obtain ⟨b, vs, e1, r, _⟩ := h
      rw [e1] at ea
      cases ea
      rw [r]; exact fun z => nomatch z
    | ownK kvs =>
      obtain ⟨b, vs, e1, r, _⟩ := h
      rw [e1] at ea
      cases ea
      rw [r]; exact fun z => nomatch z
    | un => cases ho
    | d _ => cases ho
    | pen => cases ho
    | exc _ => cases ho
    | lam _ _ _ _ _ => cases ho
    | o _ => cases ho
  · obtain ⟨h1, h2⟩ := I.own i sv a e ho es
    refine ⟨fun z => z.elim h1 fun z => ?_, h2⟩
    have h := I.slots i sv e
    cases sv with
    | own xs =>
      obtain ⟨b, vs, e1, r, _⟩ := h
      rw [e1] at es
      cases es
      rw [z, hp] at r; cases r
    | ownK kvs =>
      obtain ⟨b, vs, e1, r, _⟩ := h
      rw [e1] at es
      cases es
      rw [z, hp] at r; cases r
    | un => cases ho
    | d _ => cases ho
    | pen => cases ho
    | exc _ => cases ho
    | lam _ _ _ _ _ => cases ho
    | o _ => cases ho
  · by_cases e : a = p
    · rw [e, upd_same]; exact fun z => nomatch z
    · rw [upd_ne e]
      exact I.dom a (h.resolve_right e)
  · have := I.fr a u e hn
    rw [upd_ne (ne a (by rw [this]; exact fun z => nomatch z))]
    exact this
  · obtain ⟨h1, h2, h3, h4, h5⟩ := I.pen q e
    obtain ⟨k1, k2⟩ := G.there h1
    exact ⟨G.dep h1 (upd_ne (ne _ k1)) (upd_ne (ne _ k2)), fun z => z.elim h2 (ne _ k1), fun z => z.elim h3 (ne _ k2), h4, h5⟩
  · obtain ⟨m1, m2, m3, m4⟩ := I.mu a nd e
    exact ⟨m1.grow g (upd_ne (ne _ m1.there)), fun z => z.elim m2 (ne _ m1.there), m3, m4⟩
end
end PL

/-! The layer's judgements, names, constants, operators, statements. -/
namespace PL
open PySem PySem.Spec L2

section
variable (G : PenK) (X : Cx) (Wx : WX)
/-- behind an expression that gives data -/
def Gl1 (c : C) (σ : L2.St) (ρ : Env) (H : Hp) (P : D → Nt → Prop) (Q : VK) : Prop :=
  ∀ d k v S' H', P d k → Grow c.S S' H H' → SI G X.K (c.to S') σ H' ρ k → Rep X.K S' H' d v → Q v H'
/-- .. that gives a new list -/
def FreshAt (c : C) (n : Nt) (σ : L2.St) (ρ : Env) (a : Addr) : Prop := Young c n a ∧ ∀ i sv, ρ[i]? = some sv → sv.isOwn = true → slot σ i ≠ some (.ref a)
def GlO (c : C) (σ : L2.St) (ρ : Env) (H : Hp) (P : List D → Nt → Prop) (Q : VK) : Prop :=
  ∀ xs k a vs S' H', P xs k → Grow c.S S' H H' → SI G X.K (c.to S') σ H' ρ k → H' a = some (.lst vs) → xs.length ≤ sizeLine → Reps X.K S' H' xs vs → FreshAt (c.to S') k σ ρ a → Q (.ref a) H'
/-- .. a test -/
def GlB (c : C) (σ : L2.St) (ρ : Env) (H : Hp) (P : Bool → Nt → Prop) (Q : Bool → Hp → Prop) : Prop :=
  ∀ b k S' H', P b k → Grow c.S S' H H' → SI G X.K (c.to S') σ H' ρ k → Q b H'
/-- .. arguments -/
def GlA (c : C) (σ : L2.St) (ρ : Env) (H : Hp) (P : List D → Nt → Prop) (Q : List V → Hp → Prop) : Prop :=
  ∀ ds k vs S' H', P ds k → Grow c.S S' H H' → SI G X.K (c.to S') σ H' ρ k → Reps X.K S' H' ds vs → Q vs H'
/-- what is wanted of errors -/
def OKx (c : C) (σ : L2.St) (ρ : Env) (H : Hp) (PX : Exc → Nt → Prop) : Prop :=
  ∀ x k S' H' cls dd, PX x k → Grow c.S S' H H' → SI G X.K (c.to S') σ H' ρ k → RepX X.K X.mg S' H' x cls dd → Wx cls dd σ H'
def OKs (c : C) (H : Hp) (PX : Exc → Nt → Prop) : Prop :=
  ∀ x k σ' ρ' S' H' cls dd, PX x k → Grow c.S S' H H' → SI G X.K (c.to S') σ' H' ρ' k → RepX X.K X.mg S' H' x cls dd → Wx cls dd σ' H'

def tE (g : Env → W D) : TE := fun σ H Q => ∃ c ρ n P PX, SI G X.K c σ H ρ n ∧ g ρ n P PX ∧ Gl1 G X c σ ρ H P Q ∧ OKx G X Wx c σ ρ H PX
def tO (g : Env → W (List D)) : TE := fun σ H Q => ∃ c ρ n P PX, SI G X.K c σ H ρ n ∧ g ρ n P PX ∧ GlO G X c σ ρ H P Q ∧ OKx G X Wx c σ ρ H PX
def tT (g : Env → W Bool) : TT := fun σ H Q => ∃ c ρ n P PX, SI G X.K c σ H ρ n ∧ g ρ n P PX ∧ GlB G X c σ ρ H P Q ∧ OKx G X Wx c σ ρ H PX
def tAr (g : Env → W (List D)) : TA := fun σ H Q => ∃ c ρ n P PX, SI G X.K c σ H ρ n ∧ g ρ n P PX ∧ GlA G X c σ ρ H P Q ∧ OKx G X Wx c σ ρ H PX

def E (e : Expr) (g : Env → W D) : Prop := PE X e (tE G X Wx g)
def EO (e : Expr) (g : Env → W (List D)) : Prop := PE X e (tO G X Wx g)
def T (e : Expr) (g : Env → W Bool) : Prop := PT X e (tT G X Wx g)
def A (es : List Expr) (g : Env → W (List D)) : Prop := PA X es (tAr G X Wx g)

/-- how a statement ends -/
inductive Out where
  | nx (ρ : Env) | rt (d : D) (ρ : Env) | bk (ρ : Env) | ct (ρ : Env)
def GlS (c : C) (H : Hp) (P : Out → Nt → Prop) (Dn : Ends) : Prop :=
  (∀ ρ' k σ' S' H', P (.nx ρ') k → Grow c.S S' H H' → SI G X.K (c.to S') σ' H' ρ' k → Dn.nx σ' H') ∧
  (∀ d k v σ' ρ' S' H', P (.rt d ρ') k → Grow c.S S' H H' → SI G X.K (c.to S') σ' H' ρ' k → Rep X.K S' H' d v → Dn.rt v H') ∧
  (∀ ρ' k σ' S' H', P (.bk ρ') k → Grow c.S S' H H' → SI G X.K (c.to S') σ' H' ρ' k → Dn.bk σ' H') ∧
  ∀ ρ' k σ' S' H', P (.ct ρ') k → Grow c.S S' H H' → SI G X.K (c.to S') σ' H' ρ' k → Dn.ct σ' H'
def tS (g : Env → W Out) : TS := fun Dn σ H => ∃ c ρ n P PX, SI G X.K c σ H ρ n ∧ g ρ n P PX ∧ GlS G X c H P Dn ∧ OKs G X Wx c H PX
def St1 (s : Stmt) (g : Env → W Out) : Prop := PS X s (tS G X Wx g)
end

section
variable {G : PenK} {X : Cx} {Wx : WX} {c : C} {σ : L2.St} {ρ : Env} {H H' : Hp} {n k : Nt} {S' : Addr → Prop}
theorem Gl1.grow {P : D → Nt → Prop} {Q : VK} (h : Gl1 G X c σ ρ H P Q) (g : Grow c.S S' H H') : Gl1 G X (c.to S') σ ρ H' P Q :=
  fun d k v S2 H2 p g2 I r => h d k v S2 H2 p (g.trans g2) I r
theorem GlO.grow {P : List D → Nt → Prop} {Q : VK} (h : GlO G X c σ ρ H P Q) (g : Grow c.S S' H H') : GlO G X (c.to S') σ ρ H' P Q :=
  fun d k v vs S2 H2 p g2 I r z q f => h d k v vs S2 H2 p (g.trans g2) I r z q f
theorem GlB.grow {P : Bool → Nt → Prop} {Q : Bool → Hp → Prop} (h : GlB G X c σ ρ H P Q) (g : Grow c.S S' H H') : GlB G X (c.to S') σ ρ H' P Q :=
  fun d k S2 H2 p g2 I => h d k S2 H2 p (g.trans g2) I
theorem GlA.grow {P : List D → Nt → Prop} {Q : List V → Hp → Prop} (h : GlA G X c σ ρ H P Q) (g : Grow c.S S' H H') : GlA G X (c.to S') σ ρ H' P Q :=
  fun d k v S2 H2 p g2 I r => h d k v S2 H2 p (g.trans g2) I r
theorem OKx.grow {PX : Exc → Nt → Prop} (h : OKx G X Wx c σ ρ H PX) (g : Grow c.S S' H H') : OKx G X Wx (c.to S') σ ρ H' PX :=
  fun x k S2 H2 cl dd p g2 I r => h x k S2 H2 cl dd p (g.trans g2) I r
theorem OKs.grow {PX : Exc → Nt → Prop} (h : OKs G X Wx c H PX) (g : Grow c.S S' H H') : OKs G X Wx (c.to S') H' PX :=
  fun x k σ2 ρ2 S2 H2 cl dd p g2 I r => h x k σ2 ρ2 S2 H2 cl dd p (g.trans g2) I r
theorem OKs.x {PX : Exc → Nt → Prop} (h : OKs G X Wx c H PX) : OKx G X Wx c σ ρ H PX :=
  fun x k S2 H2 cl dd p g I r => h x k σ ρ S2 H2 cl dd p g I r
theorem GlS.grow {P : Out → Nt → Prop} {Dn : Ends} (h : GlS G X c H P Dn) (g : Grow c.S S' H H') : GlS G X (c.to S') H' P Dn :=
  ⟨fun ρ k σ S2 H2 p g2 I => h.1 ρ k σ S2 H2 p (g.trans g2) I, fun d k v σ ρ S2 H2 p g2 I r => h.2.1 d k v σ ρ S2 H2 p (g.trans g2) I r,
    fun ρ k σ S2 H2 p g2 I => h.2.2.1 ρ k σ S2 H2 p (g.trans g2) I, fun ρ k σ S2 H2 p g2 I => h.2.2.2 ρ k σ S2 H2 p (g.trans g2) I⟩
theorem Gl1.at {P : D → Nt → Prop} {Q : VK} (h : Gl1 G X c σ ρ H P Q) {d : D} {v : V} (p : P d n) (I : SI G X.K c σ H ρ n) (r : Rep X.K c.S H d v) : Q v H :=
  h d n v c.S H p .refl I r
/-- a new object as the answer -/
theorem Gl1.new {P : D → Nt → Prop} {Q : VK} (h : Gl1 G X c σ ρ H P Q) {d : D} {a : Addr} {o : HO} (p : P d n) (I : SI G X.K c σ H ρ n) (hp : H a = none)
    (r : Grow c.S (fun b => c.S b ∨ b = a) H (upd H a o) → Rep X.K (fun b => c.S b ∨ b = a) (upd H a o) d (.ref a)) : Q (.ref a) (upd H a o) := by
  obtain ⟨I', g⟩ := I.laid (o := o) hp
  exact h d n _ _ _ p g I' (r g)
theorem weakE {e : Expr} {t t' : TE} (h : PE X e t) (f : ∀ σ H Q, t' σ H Q → t σ H Q) : PE X e t' := ⟨fun pins s σ H Q I q => h.run pins s σ H Q I (f σ H Q q)⟩
theorem weakT {e : Expr} {t t' : TT} (h : PT X e t) (f : ∀ σ H Q, t' σ H Q → t σ H Q) : PT X e t' := ⟨fun pins s σ H Q I q => h.run pins s σ H Q I (f σ H Q q)⟩
theorem weakW {e : Expr} {t t' : TT} (h : PW X e t) (f : ∀ σ H Q, t' σ H Q → t σ H Q) : PW X e t' := ⟨fun wh pins s σ H Q I q => h.run wh pins s σ H Q I (f σ H Q q)⟩
theorem weakA {es : List Expr} {t t' : TA} (h : PA X es t) (f : ∀ σ H Q, t' σ H Q → t σ H Q) : PA X es t' := ⟨fun pos pins s σ H Q I q => h.run pos pins s σ H Q I (f σ H Q q)⟩
theorem weakS {s : Stmt} {t t' : TS} (h : PS X s t) (f : ∀ D σ H, t' D σ H → t D σ H) : PS X s t' := ⟨fun pins s σ H D I q => h.run pins s σ H D I (f D σ H q)⟩
theorem weakSs {s : List Stmt} {t t' : TS} (h : PSs X s t) (f : ∀ D σ H, t' D σ H → t D σ H) : PSs X s t' := ⟨fun pins s σ H D I q => h.run pins s σ H D I (f D σ H q)⟩
/-- the parts in a row -/
theorem tE.bnd {α : Type} {g : Env → W D} {f : D → W α} {P : α → Nt → Prop} {PX : Exc → Nt → Prop} {Q : VK} (I : SI G X.K c σ H ρ n) (h : PL.bnd (g ρ) f n P PX) (hx : OKx G X Wx c σ ρ H PX)
    (hk : ∀ d k v S' H', f d k P PX → Grow c.S S' H H' → SI G X.K (c.to S') σ H' ρ k → OKx G X Wx (c.to S') σ ρ H' PX → Rep X.K S' H' d v → Q v H') : tE G X Wx g σ H Q :=
  ⟨c, ρ, n, fun d k => f d k P PX, PX, I, h, fun d k v S' H' p g I' r => hk d k v S' H' p g I' (hx.grow g) r, hx⟩
theorem tO.bnd {α : Type} {g : Env → W (List D)} {f : List D → W α} {P : α → Nt → Prop} {PX : Exc → Nt → Prop} {Q : VK} (I : SI G X.K c σ H ρ n) (h : PL.bnd (g ρ) f n P PX) (hx : OKx G X Wx c σ ρ H PX)
    (hk : ∀ xs k a vs S' H', f xs k P PX → Grow c.S S' H H' → SI G X.K (c.to S') σ H' ρ k → OKx G X Wx (c.to S') σ ρ H' PX → H' a = some (.lst vs) → xs.length ≤ sizeLine → Reps X.K S' H' xs vs → FreshAt (c.to S') k σ ρ a → Q (.ref a) H') : tO G X Wx g σ H Q :=
  ⟨c, ρ, n, fun d k => f d k P PX, PX, I, h, fun d k v vs S' H' p g I' r z q fr => hk d k v vs S' H' p g I' (hx.grow g) r z q fr, hx⟩
theorem tT.bnd {α : Type} {g : Env → W Bool} {f : Bool → W α} {P : α → Nt → Prop} {PX : Exc → Nt → Prop} {Q : Bool → Hp → Prop} (I : SI G X.K c σ H ρ n) (h : PL.bnd (g ρ) f n P PX) (hx : OKx G X Wx c σ ρ H PX)
    (hk : ∀ d k S' H', f d k P PX → Grow c.S S' H H' → SI G X.K (c.to S') σ H' ρ k → OKx G X Wx (c.to S') σ ρ H' PX → Q d H') : tT G X Wx g σ H Q :=
  ⟨c, ρ, n, fun d k => f d k P PX, PX, I, h, fun d k S' H' p g I' => hk d k S' H' p g I' (hx.grow g), hx⟩
theorem tAr.bnd {α : Type} {g : Env → W (List D)} {f : List D → W α} {P : α → Nt → Prop} {PX : Exc → Nt → Prop} {Q : List V → Hp → Prop} (I : SI G X.K c σ H ρ n) (h : PL.bnd (g ρ) f n P PX) (hx : OKx G X Wx c σ ρ H PX)
    (hk : ∀ d k v S' H', f d k P PX → Grow c.S S' H H' → SI G X.K (c.to S') σ H' ρ k → OKx G X Wx (c.to S') σ ρ H' PX → Reps X.K S' H' d v → Q v H') : tAr G X Wx g σ H Q :=
  ⟨c, ρ, n, fun d k => f d k P PX, PX, I, h, fun d k v S' H' p g I' r => hk d k v S' H' p g I' (hx.grow g) r, hx⟩

end
section
variable {G : PenK} {K : PySem.W.Frag} {c : C} {σ : L2.St} {ρ : Env} {H H' : Hp} {n k : Nt} {S' : Addr → Prop}
/-- a name takes data -/
theorem SI.set {i : Nat} {d : D} {v : V} (I : SI G K c σ H ρ n) (r : Rep K c.S H d v) : SI G K c (σ.set i (some v)) H (ρ.set i (.d d)) n := by
  have key : ∀ j sv, (ρ.set i (.d d))[j]? = some sv → (j = i ∧ sv = .d d ∧ slot (σ.set i (some v)) j = some v) ∨ (i ≠ j ∧ ρ[j]? = some sv ∧ slot (σ.set i (some v)) j = slot σ j) := fun j sv e => by
    by_cases h : i = j
    · subst h
      have hl : i < ρ.length := by
        have := (List.getElem?_eq_some_iff.mp e).1
        rwa [List.length_set] at this
      rw [List.getElem?_set_self hl] at e
      exact .inl ⟨rfl, (Option.some.inj e).symm, slot_set_same (I.len ▸ hl)⟩
    · rw [List.getElem?_set_ne h] at e
      exact .inr ⟨h, e, slot_set_ne h⟩
  refine ⟨by rw [List.length_set, List.length_set, I.len], fun j sv e => ?_, fun j sv a e ho es => ?_, fun j k sv sv' a hn e e' ho ho' es es' => ?_, I.dom, I.fr, I.pen, I.no, I.tab, I.mu, I.mu0, I.mz⟩
  · rcases key j sv e with ⟨_, rfl, h⟩ | ⟨_, h, h2⟩
    · exact ⟨v, h, r⟩
    · rw [h2]; exact I.slots j sv h
  · rcases key j sv e with ⟨_, rfl, h⟩ | ⟨_, h, h2⟩
    · cases ho
    · exact I.own j sv a h ho (h2 ▸ es)
  · rcases key j sv e with ⟨_, rfl, h⟩ | ⟨_, h, h2⟩
    · cases ho
    · rcases key k sv' e' with ⟨_, rfl, h⟩ | ⟨_, h', h2'⟩
      · cases ho'
      · exact I.apart j k sv sv' a hn h h' ho ho' (h2 ▸ es) (h2' ▸ es')
/-- a name takes a new list -/
theorem SI.setO {i : Nat} {xs : List D} {a : Addr} {vs : List V} (I : SI G K c σ H ρ n) (e1 : H a = some (.lst vs)) (z : xs.length ≤ sizeLine) (r : Reps K c.S H xs vs) (y : Young c n a)
    (f : ∀ j sv, i ≠ j → ρ[j]? = some sv → sv.isOwn = true → slot σ j ≠ some (.ref a)) : SI G K c (σ.set i (some (.ref a))) H (ρ.set i (.own xs)) n := by
  have key : ∀ j sv, (ρ.set i (.own xs))[j]? = some sv → (j = i ∧ sv = .own xs ∧ slot (σ.set i (some (.ref a))) j = some (.ref a)) ∨ (i ≠ j ∧ ρ[j]? = some sv ∧ slot (σ.set i (some (.ref a))) j = slot σ j) := fun j sv e => by
    by_cases h : i = j
    · subst h
      have hl : i < ρ.length := by
        have := (List.getElem?_eq_some_iff.mp e).1
        rwa [List.length_set] at this
      rw [List.getElem?_set_self hl] at e
      exact .inl ⟨rfl, (Option.some.inj e).symm, slot_set_same (I.len ▸ hl)⟩
    · rw [List.getElem?_set_ne h] at e
      exact .inr ⟨h, e, slot_set_ne h⟩
  refine ⟨by rw [List.length_set, List.length_set, I.len], fun j sv e => ?_, fun j sv b e ho es => ?_, fun j k sv sv' b hn e e' ho ho' es es' => ?_, I.dom, I.fr, I.pen, I.no, I.tab, I.mu, I.mu0, I.mz⟩
  · rcases key j sv e with ⟨_, rfl, h⟩ | ⟨_, h, h2⟩
    · exact ⟨a, vs, h, e1, z, r⟩
    · rw [h2]; exact I.slots j sv h
  · rcases key j sv e with ⟨_, rfl, h⟩ | ⟨_, h, h2⟩
    · rw [h] at es; cases es; exact y
    · exact I.own j sv b h ho (h2 ▸ es)
  · rcases key j sv e with ⟨h0, rfl, h⟩ | ⟨_, h, h2⟩
    · rcases key k sv' e' with ⟨h0', rfl, h'⟩ | ⟨_, h', h2'⟩
      · exact hn (h0.trans h0'.symm)
      · rw [h] at es; cases es
        exact f k sv' (h0 ▸ hn) h' ho' (h2' ▸ es')
    · rcases key k sv' e' with ⟨h0', rfl, h'⟩ | ⟨_, h', h2'⟩
      · rw [h'] at es'; cases es'
        exact f j sv (fun q => hn (q ▸ h0'.symm)) h ho (h2 ▸ es)
      · exact I.apart j k sv sv' b hn h h' ho ho' (h2 ▸ es) (h2' ▸ es')
/-- an address comes among those that stay -/
theorem SI.adopt {a : Addr} (I : SI G K c σ H ρ n) (y : FreshAt c n σ ρ a) (h : H a ≠ none) : SI G K (c.to fun b => c.S b ∨ b = a) σ H ρ n ∧ Grow c.S (fun b => c.S b ∨ b = a) H H := by
  have g : Grow c.S (fun b => c.S b ∨ b = a) H H := ⟨fun _ h => .inl h, fun _ _ => rfl⟩
  refine ⟨⟨I.len, fun i sv e => (I.slots i sv e).grow g fun _ _ _ => rfl, fun i sv b e ho es => ?_, I.apart, fun b h' => ?_, I.fr, fun p e => ?_, fun b h => ⟨fun z => z.elim (I.no b h).1 fun z => (I.no b h).2 (z ▸ y.1.2.1), (I.no b h).2⟩, fun q e => ⟨(I.tab q e).1, (I.tab q e).2.grow g rfl⟩, fun b nd e => ⟨(I.mu b nd e).1.grow g rfl, fun z => Or.elim z (I.mu b nd e).2.1 fun z => (by rw [z, y.1.2.2] at e; cases e), (I.mu b nd e).2.2⟩, I.mu0, I.mz⟩, g⟩
  · obtain ⟨h1, h2⟩ := I.own i sv b e ho es
    exact ⟨fun z => z.elim h1 fun z => y.2 i sv e ho (z ▸ es), h2⟩
  · rcases h' with h' | rfl
    · exact I.dom b h'
    · exact h
  · obtain ⟨h1, h2, h3, h4, h5⟩ := I.pen p e
    exact ⟨h1, fun z => z.elim h2 fun z => h4 (z ▸ y.1.2.1), fun z => z.elim h3 fun z => h5 (z ▸ y.1.2.1), h4, h5⟩

/-! ### all that is one's own, lent -/
def ownS (ρ : Env) (σ : L2.St) (a : Addr) : Prop := ∃ i sv, ρ[i]? = some sv ∧ sv.isOwn = true ∧ slot σ i = some (.ref a)
theorem bor_get {i : Nat} {sv : SV} (h : (bor ρ)[i]? = some sv) : ∃ s0, ρ[i]? = some s0 ∧ sv = s0.bor := by
  unfold bor at h
  rw [List.getElem?_map] at h
  cases e : ρ[i]? with
  | none => rw [e] at h; cases h
  | some s0 => rw [e] at h; exact ⟨s0, rfl, (Option.some.inj h).symm⟩
theorem bor_own {s : SV} : s.bor.isOwn = false := by cases s <;> rfl
theorem SI.own_there (I : SI G K c σ H ρ n) {a : Addr} (h : ownS ρ σ a) : H a ≠ none := by
  obtain ⟨i, sv, e, ho, es⟩ := h
  have q := I.slots i sv e
  cases sv with
  | own xs => obtain ⟨b, vs, e1, r, _⟩ := q; rw [e1] at es; cases es; rw [r]; exact fun z => nomatch z
  | ownK kvs => obtain ⟨b, vs, e1, r, _⟩ := q; rw [e1] at es; cases es; rw [r]; exact fun z => nomatch z
  | un => cases ho
  | d _ => cases ho
  | pen => cases ho
  | exc _ => cases ho
  | lam _ _ _ _ _ => cases ho
  | o _ => cases ho
theorem SI.lend (I : SI G K c σ H ρ n) : SI G K (c.to fun a => c.S a ∨ ownS ρ σ a) σ H (bor ρ) n ∧ Grow c.S (fun a => c.S a ∨ ownS ρ σ a) H H := by
  have g : Grow c.S (fun a => c.S a ∨ ownS ρ σ a) H H := ⟨fun _ h => .inl h, fun _ _ => rfl⟩
  refine ⟨⟨by unfold bor; rw [List.length_map, I.len], fun i sv e => ?_, fun i sv a e ho => ?_, fun i j sv sv' a _ e _ ho => ?_, fun a h => h.elim (I.dom a) I.own_there, I.fr, fun p e => ?_, fun a h => ⟨fun z => z.elim (I.no a h).1 fun ⟨i, sv, e, ho, es⟩ => (I.no a h).2 (I.own i sv a e ho es).2.1, (I.no a h).2⟩, fun q e => ⟨(I.tab q e).1, (I.tab q e).2.grow g rfl⟩, fun a nd e => ⟨(I.mu a nd e).1.grow g rfl, fun z => Or.elim z (I.mu a nd e).2.1 fun ⟨i, sv, e1, ho, es⟩ => (by rw [(I.own i sv a e1 ho es).2.2] at e; cases e), (I.mu a nd e).2.2⟩, I.mu0, I.mz⟩, g⟩
  · obtain ⟨s0, e0, rfl⟩ := bor_get e
    have q := (I.slots i s0 e0).grow g fun _ _ _ => rfl
    have q0 := I.slots i s0 e0
    cases s0 with
    | own xs => obtain ⟨b, vs, e1, r, z, q⟩ := q; exact ⟨.ref b, e1, b, vs, rfl, ⟨.inr ⟨i, _, e0, rfl, e1⟩, r⟩, z, q⟩
    | ownK kvs => obtain ⟨b, vs, e1, r, q⟩ := q; exact ⟨.ref b, e1, b, vs, rfl, ⟨.inr ⟨i, _, e0, rfl, e1⟩, .inl r⟩, q⟩
    | un => trivial
    | d _ => exact q
    | pen => exact q
    | exc _ => exact q
    | lam _ _ _ _ _ => exact q
    | o _ => exact q
  · obtain ⟨s0, _, rfl⟩ := bor_get e
    rw [bor_own] at ho; cases ho
  · obtain ⟨s0, _, rfl⟩ := bor_get e
    rw [bor_own] at ho; cases ho
  · obtain ⟨h1, h2, h3, h4, h5⟩ := I.pen p e
    have no : ∀ b, c.H0 b ≠ none → ¬ ownS ρ σ b := fun b hb ⟨i, sv, e, ho, es⟩ => hb (I.own i sv b e ho es).2.1
    exact ⟨h1, fun z => z.elim h2 (no _ h4), fun z => z.elim h3 (no _ h5), h4, h5⟩
/-- and given back -/
theorem SI.back {S' : Addr → Prop} (I : SI G K c σ H ρ n) (g : Grow (fun a => c.S a ∨ ownS ρ σ a) S' H H') (J : SI G K (c.to S') σ H' (bor ρ) k) :
    SI G K (c.to fun a => S' a ∧ ¬ ownS ρ σ a) σ H' ρ k ∧ Grow c.S (fun a => S' a ∧ ¬ ownS ρ σ a) H H' := by
  have no : ∀ a, c.S a → ¬ ownS ρ σ a := fun a h ⟨i, sv, e, ho, es⟩ => (I.own i sv a e ho es).1 h
  have g2 : Grow c.S (fun a => S' a ∧ ¬ ownS ρ σ a) H H' := ⟨fun a h => ⟨g.sub a (.inl h), no a h⟩, fun a h => g.eq a (.inl h)⟩
  refine ⟨⟨I.len, fun i sv e => (I.slots i sv e).grow g2 fun a ea ho => g.eq a (.inr ⟨i, sv, e, ho, ea⟩), fun i sv a e ho es => ⟨fun z => z.2 ⟨i, sv, e, ho, es⟩, (I.own i sv a e ho es).2.1, ?_⟩, I.apart, fun a h => J.dom a h.1, J.fr, fun p e => ?_, fun a h => ⟨fun z => (J.no a h).1 z.1, (J.no a h).2⟩, fun q e => ⟨(J.tab q e).1, ?_⟩, fun a nd e => ?_, J.mu0, J.mz⟩, g2⟩
  · cases q : k.μ a with
    | none => rfl
    | some nd =>
      have hS := J.muS (by rw [q]; exact fun z => nomatch z)
      exact absurd (g.sub a (.inr ⟨i, sv, e, ho, es⟩)) hS.1
  · obtain ⟨h1, h2, h3, h4, h5⟩ := J.pen p e
    exact ⟨h1, fun z => h2 z.1, fun z => h3 z.1, h4, h5⟩
  · obtain ⟨ps, h1, h2, h3⟩ := (J.tab q e).2
    refine ⟨ps, h1, h2, fun pos cv z => ?_⟩
    obtain ⟨c', e1, e2, e3⟩ := h3 pos cv z
    refine ⟨c', e1, ⟨e2, fun ⟨i, sv, k1, k2, k3⟩ => ?_⟩, e3⟩
    have hh : H' c' = H c' := g.eq c' (.inr ⟨i, sv, k1, k2, k3⟩)
    have q := I.slots i sv k1
    rw [e3] at hh
    cases sv with
    | own xs => obtain ⟨b, vs, u1, r, _⟩ := q; rw [u1] at k3; cases k3; rw [r] at hh; cases hh
    | ownK kvs => obtain ⟨b, vs, u1, r, _⟩ := q; rw [u1] at k3; cases k3; rw [r] at hh; cases hh
    | _ => cases k2
  · obtain ⟨m1, m2, m3, m4⟩ := J.mu a nd e
    exact ⟨m1.move rfl, fun z => m2 z.1, m3, m4⟩
end
end PL

/-! New tuples that are told by their very objects: none of them has a dict of its own. -/
namespace PL
open PySem PySem.Spec PyProof.Rows L2
/-- a new tuple -/
def NewT (H : Hp) (ys : List V) (Q : VK) : Prop := ∀ p o, H p = none → o.dict = none → Q (.ref p) (upd H p (.frz o (.tup ys)))
section
variable {X : Cx} {pins : List (Addr × Obj)} {σ : L2.St} {H : Hp} {s : Shared}
theorem newT {ys : List V} {its : List Value} {Q : VK} {n : Nat} (I : Inv X pins σ H s) (r : Vals ys its) (hz : ys.length ≤ sizeLine) (q : NewT H ys Q) : EP X pins σ Q (.ref s.heap.objs.size) { s with heap := s.heap.push { cls := .type "tuple", data := .seq its.toArray n } } :=
  ⟨.ref s.heap.objs.size, _, I.laid (t' := s.toks) (o := .frz { cls := .type "tuple", data := .seq its.toArray n } (.tup ys)) (fun b u e => Heap.get?_push_of_some _ e) (Nat.le_refl _) ⟨Heap.get?_push_size _ rfl, hz, its, r, ⟨_, Heap.get?_push_size _ rfl, rfl, _, rfl⟩⟩, rfl, q _ _ (I.hok.fresh (Nat.le_refl _)) rfl⟩
def tTupZ (t : TA) : TE := fun σ H Q => t σ H fun xs H1 => xs.length ≤ sizeLine ∧ NewT H1 xs Q
theorem pe_tupZ {es : List Expr} {x1 : Nat} {pos : Pos} {t : TA} (h : PA X es t) : PE X (.Tuple es x1 pos) (tTupZ t) := by
  refine ⟨fun pins s σ H Q I hq => ?_⟩
  exact wpAny_Tuple_spliced (thn (h.run pos pins s σ H _ I hq) fun us s1 ⟨xs, H1, I1, r, z, q⟩ => ⟨by rw [← r.length]; exact z, newT I1 r z q⟩)
def rCatZ (K : PySem.W.Frag) : R2 := fun x y H Q => ∃ a b xs ys, x = .ref a ∧ y = .ref b ∧ SqT K H a xs ∧ SqT K H b ys ∧ xs.length + ys.length ≤ sizeLine ∧
  (xs = [] → Q (.ref b) H) ∧ (xs ≠ [] → ys = [] → Q (.ref a) H) ∧ (xs ≠ [] → ys ≠ [] → NewT H (xs ++ ys) Q)
theorem op_catZ : OpR X (binaryOp .Add) (rCatZ X.K) := by
  intro pins s σ H x y v u Q I rx ry h
  obtain ⟨a, b, xs, ys, rfl, rfl, ha, hb, hz, q0, q1, q2⟩ := h
  cases rx
  cases ry
  obtain ⟨its, r1, p1, _⟩ := I.tuple ha
  obtain ⟨its2, r2, p2, _⟩ := I.tuple hb
  by_cases hx : xs = []
  · subst hx
    cases r1
    exact cat_tup0 p1 p2 ⟨.ref b, H, I, rfl, q0 rfl⟩
  · refine HT.cat_tup p1 p2 (fun z => hx (r1.nil_iff.mp z)) (fun z => ⟨.ref a, H, I, rfl, q1 hx (r2.nil_iff.mp z)⟩) (fun z => ?_) (by rw [← r1.length, ← r2.length]; exact hz)
    exact newT I (r1.append r2) (by rw [List.length_append]; exact hz) (q2 hx fun w => z (r2.nil_iff.mpr w))
def rSlZ (K : PySem.W.Frag) : V → Option Int → Option Int → Hp → VK → Prop := fun x lo hi H Q => ∃ a xs, x = .ref a ∧ SqT K H a xs ∧
  (HT.sIx xs.length 0 lo = 0 ∧ HT.sIx xs.length xs.length hi = xs.length → Q (.ref a) H) ∧ (¬ (HT.sIx xs.length 0 lo = 0 ∧ HT.sIx xs.length xs.length hi = xs.length) → NewT H (cutV xs lo hi) Q)
theorem sl_tupZ : SlR X (rSlZ X.K) := by
  intro pins s σ H x v vl vu lo hi sl Q I rx hs pl pu h
  obtain ⟨a, xs, rfl, hx, q1, q2⟩ := h
  cases rx
  obtain ⟨its, r, ht, hz⟩ := I.tuple hx
  have hlen : its.toArray.size = xs.length := by rw [List.size_toArray]; exact r.length.symm
  refine ⟨"tuple", _, PyProof.Rows.slot_tuple_getitem.lookup, ht.typeIs, ?_⟩
  by_cases hw : HT.sIx xs.length 0 lo = 0 ∧ HT.sIx xs.length xs.length hi = xs.length
  · exact getItem_tuple_whole ht hs pl pu (by rw [hlen]; exact hw) ⟨.ref a, H, I, rfl, q1 hw⟩
  · refine HT.getItem_tuple_cut ht hs pl pu (by rw [hlen]; exact hw) ?_ (by rw [hlen]; exact hz)
    rw [hlen]
    exact newT I ((r.drop (HT.sIx xs.length 0 lo)).take (HT.sIx xs.length xs.length hi - HT.sIx xs.length 0 lo)) (Nat.le_trans (cutV_length xs lo hi) hz) (q2 hw)
theorem call_tupleZ : CallR X (.type "tuple") (fun xs H Q => ∃ p ys, xs = [.ref p] ∧ ((SqL X.K H p ys ∧ NewT H ys Q) ∨ (SqT X.K H p ys ∧ Q (.ref p) H))) := by
  intro pins s σ H xs us Q I r h
  obtain ⟨p, ys, rfl, h⟩ := h
  obtain ⟨u, rfl, rx⟩ := vals1 r
  cases rx
  rcases h with ⟨hq, q⟩ | ⟨hq, q⟩
  · obtain ⟨its, r', pl, hz⟩ := I.list hq
    have hlen := r'.length
    refine call_tuple_list pl.isList (fun h' kp => ?_) (by simp only [List.size_toArray] <;> omega)
    have I1 : Inv X pins σ H { s with heap := h' } := I.kept (t' := s.toks) kp
    exact newT I1 r' hz q
  · obtain ⟨its, r', pl, hz⟩ := I.tuple hq
    exact call_tuple_same pl ⟨.ref p, H, I, rfl, q⟩
end
end PL

/-! The layer's expressions. -/
namespace PL
open PySem PySem.Spec L2

mutual
/-- data as the library's own data (a dict is not carried) -/
def py : D → PyData
  | .non => .none
  | .bl b => .bool b
  | .int i => .int i
  | .str x => .str x
  | .lst xs => .list (pys xs)
  | .tup xs => .tuple (pys xs)
  | .dic kvs => .dict (pyk kvs)
  | .ins _ _ _ => .dict [(.int (2 ^ 2000), .none)]
def pys : List D → List PyData
  | [] => []
  | x :: xs => py x :: pys xs
def pyk : List (Key × D) → List (PyData × PyData)
  | [] => []
  | (.inl i, x) :: r => (.int i, py x) :: pyk r
  | (.inr s, x) :: r => (.str s, py x) :: pyk r
end
def okD (d : D) : Bool := SeqAt.shaped (py d)

def nm (ρ : Env) (i : Nat) : W D := match ρ[i]? with
  | some (.d x) => ret x
  | _ => stuck
def addD : D → D → W D
  | .int i, .int j => ret (.int (i + j))
  | .str a, .str b => grd (a.length + b.length ≤ sizeLine) (ret (.str (a ++ b)))
  | .tup xs, .tup ys => grd (xs.length + ys.length ≤ sizeLine) (ret (.tup (xs ++ ys)))
  | .lst xs, .lst ys => grd (xs.length + ys.length ≤ sizeLine) (ret (.lst (xs ++ ys)))
  | _, _ => stuck
def catD : D → D → W (List D)
  | .lst xs, .lst ys => grd (xs.length + ys.length ≤ sizeLine) (ret (xs ++ ys))
  | _, _ => stuck
def subD : D → D → W D
  | .int i, .int j => ret (.int (i - j))
  | _, _ => stuck
def fdivD : D → D → W D
  | .int i, .int j => grd (CDiv i j) (ret (.int (i / j)))
  | _, _ => stuck
def modD : D → D → W D
  | .int i, .int j => grd (0 < j) (ret (.int (i % j)))
  | _, _ => stuck
def powD : D → D → W D
  | .int i, .int j => grd (CPow i j) (ret (.int (i ^ j.toNat)))
  | _, _ => stuck
def negD : D → W D
  | .int i => ret (.int (-i))
  | _ => stuck
/-- two lists of unlike length -/
def difL : D → D → Bool
  | .lst xs, .lst ys => xs.length != ys.length
  | _, _ => false
theorem pys_len : ∀ xs : List D, (pys xs).length = xs.length
  | [] => rfl
  | x :: xs => by show _ + 1 = _ + 1; rw [pys_len xs]
theorem eqvAll_len : ∀ xs ys : List PyData, xs.length ≠ ys.length → PyData.eqvAll xs ys = false
  | [], [], h => absurd rfl h
  | [], _ :: _, _ => by simp [PyData.eqvAll]
  | _ :: _, [], _ => by simp [PyData.eqvAll]
  | x :: xs, y :: ys, h => by
    have ih := eqvAll_len xs ys fun e => h (by show _ + 1 = _ + 1; rw [e])
    simp [PyData.eqvAll, ih]
theorem difL_eqv {a b : D} (h : difL a b = true) : ∃ xs ys, a = .lst xs ∧ b = .lst ys ∧ xs.length ≠ ys.length ∧ PyData.eqv (py a) (py b) = false := by
  unfold difL at h
  split at h
  · rename_i xs ys
    have hn : xs.length ≠ ys.length := by simpa using h
    refine ⟨xs, ys, rfl, rfl, hn, ?_⟩
    simp only [py, PyData.eqv]
    exact eqvAll_len _ _ (by rw [pys_len, pys_len]; exact hn)
  · cases h
def strS : D → D → Bool
  | .str _, .str _ => true
  | _, _ => false
def eqQ (a b : D) : Prop := (okD a = true ∧ okD b = true) ∨ difL a b = true ∨ strS a b = true
def eqD (a b : D) : W D := grd (eqQ a b) (ret (.bl (PyData.eqv (py a) (py b))))
def neD (a b : D) : W D := grd (eqQ a b) (ret (.bl (!PyData.eqv (py a) (py b))))
def ltD : D → D → W D
  | .int i, .int j => ret (.bl (decide (i < j)))
  | .str a, .str b => ret (.bl (decide (a.cps.toList < b.cps.toList)))
  | _, _ => stuck
def leD : D → D → W D
  | .int i, .int j => ret (.bl (decide (i ≤ j)))
  | .str a, .str b => ret (.bl (!decide (b.cps.toList < a.cps.toList)))
  | _, _ => stuck
def gtD : D → D → W D
  | .int i, .int j => ret (.bl (decide (j < i)))
  | .str a, .str b => ret (.bl (decide (b.cps.toList < a.cps.toList)))
  | _, _ => stuck
def geD : D → D → W D
  | .int i, .int j => ret (.bl (decide (j ≤ i)))
  | .str a, .str b => ret (.bl (!decide (a.cps.toList < b.cps.toList)))
  | _, _ => stuck
def isNone (a : D) : Bool := match a with
  | .non => true
  | _ => false
/-- a is None, a is not None -/
def isND (a b : D) : W D := match b with
  | .non => ret (.bl (isNone a))
  | .bl y => match a with
    | .bl x => ret (.bl (decide (x = y)))
    | _ => stuck
  | _ => stuck
def tru : D → W Bool
  | .non => ret false
  | .bl b => ret b
  | .int i => ret (i != 0)
  | .str x => ret ((x.length : Int) != 0)
  | .lst xs => ret (!xs.isEmpty)
  | .tup xs => ret (!xs.isEmpty)
  | .dic _ => stuck
  | .ins _ _ _ => stuck
def items : D → W (List D)
  | .lst xs => ret xs
  | .tup xs => ret xs
  | _ => stuck
def ixD : D → D → W D
  | .lst xs, .int i => match atI xs i with
    | some x => ret x
    | none => stuck
  | .tup xs, .int i => match atI xs i with
    | some x => ret x
    | none => stuck
  | .str z, .int i => match atI z.cps.toList i with
    | some k => ret (.str ⟨#[k]⟩)
    | none => stuck
  | _, _ => stuck
def lenD : D → W D
  | .lst xs => ret (.int xs.length)
  | .tup xs => ret (.int xs.length)
  | .str x => ret (.int x.length)
  | .dic kvs => ret (.int kvs.length)
  | _ => stuck
def one (f : D → W D) : List D → W D
  | [x] => f x
  | _ => stuck
def two (f : D → D → W D) : List D → W D
  | [x, y] => f x y
  | _ => stuck
def cutD {α : Type} (xs : List α) (lo hi : Option Int) : List α := (xs.drop (HT.sIx xs.length 0 lo)).take (HT.sIx xs.length xs.length hi - HT.sIx xs.length 0 lo)

section
variable {G : PenK} {X : Cx} {Wx : WX}

/-! ### by values -/
def V1 (G : PenK) (X : Cx) (Wx : WX) (h : D → W D) (r : V → Hp → VK → Prop) : Prop :=
  ∀ c σ ρ H n P PX d v Q, SI G X.K c σ H ρ n → Rep X.K c.S H d v → h d n P PX → Gl1 G X c σ ρ H P Q → OKx G X Wx c σ ρ H PX → r v H Q
def V2 (G : PenK) (X : Cx) (Wx : WX) (h : D → D → W D) (r : R2) : Prop :=
  ∀ c σ ρ H n P PX d e v w Q, SI G X.K c σ H ρ n → Rep X.K c.S H d v → Rep X.K c.S H e w → h d e n P PX → Gl1 G X c σ ρ H P Q → OKx G X Wx c σ ρ H PX → r v w H Q
def VA (G : PenK) (X : Cx) (Wx : WX) (h : List D → W D) (r : List V → Hp → VK → Prop) : Prop :=
  ∀ c σ ρ H n P PX ds vs Q, SI G X.K c σ H ρ n → Reps X.K c.S H ds vs → h ds n P PX → Gl1 G X c σ ρ H P Q → OKx G X Wx c σ ρ H PX → r vs H Q
/-- a new list as the answer -/
theorem GlO.new {c : C} {σ : L2.St} {ρ : Env} {H : Hp} {n : Nt} {P : List D → Nt → Prop} {Q : VK} (h : GlO G X c σ ρ H P Q) {xs : List D} {vs : List V} {a : Addr} (p : P xs n) (I : SI G X.K c σ H ρ n) (hp : H a = none)
    (z : xs.length ≤ sizeLine) (r : Reps X.K c.S H xs vs) : Q (.ref a) (upd H a (.lst vs)) := by
  have ne : ∀ b, H b ≠ none → b ≠ a := fun b q e => q (e ▸ hp)
  have g : Grow c.S c.S H (upd H a (.lst vs)) := ⟨fun _ q => q, fun b q => upd_ne (ne b (I.dom b q))⟩
  have I' : SI G X.K c σ (upd H a (.lst vs)) ρ n := ⟨I.len, fun i sv e => (I.slots i sv e).grow g fun b eb ho => upd_ne (ne b (I.own_there ⟨i, sv, e, ho, eb⟩)), I.own, I.apart, fun b q => by rw [upd_ne (ne b (I.dom b q))]; exact I.dom b q,
    fun b u e q => by
      have := I.fr b u e q
      rw [upd_ne (ne b (by rw [this]; exact fun z => nomatch z))]
      exact this, fun q e => by
      obtain ⟨h1, h2, h3, h4, h5⟩ := I.pen q e
      obtain ⟨k1, k2⟩ := G.there h1
      exact ⟨G.dep h1 (upd_ne (ne _ k1)) (upd_ne (ne _ k2)), h2, h3, h4, h5⟩, I.no, fun q e => ⟨(I.tab q e).1, (I.tab q e).2.grow g (upd_ne (ne _ (I.tabN e).2.2))⟩, fun b nd e => ⟨(I.mu b nd e).1.grow g (upd_ne (ne _ (I.mu b nd e).1.there)), (I.mu b nd e).2⟩, I.mu0, I.mz⟩
  exact h xs n a vs c.S _ p g I' upd_same z (Reps.grow g _ _ r) ⟨⟨fun q => I.dom a q hp, I.freeOld hp, I.freeM hp⟩, fun i sv e ho es => I.own_there ⟨i, sv, e, ho, es⟩ hp⟩

/-- a new list may stay -/
theorem EO.e {e : Expr} {g : Env → W (List D)} (h : EO G X Wx e g) : E G X Wx e (fun ρ => bnd (g ρ) fun xs => ret (.lst xs)) :=
  weakE h fun σ H Q ⟨c, ρ, n, P, PX, I, q, hg, hx⟩ => tO.bnd I q hx fun xs k a vs S' H' p g I' _ e z r f => by
    obtain ⟨I2, g2⟩ := I'.adopt f (by rw [e]; exact fun z => nomatch z)
    exact hg (.lst xs) k (.ref a) _ H' p (g.trans g2) I2 ⟨a, vs, rfl, ⟨.inr rfl, e⟩, z, Reps.grow g2 _ _ r⟩

/-! ### names, constants -/
theorem e_nm (i : Nat) {x : Str} {pos : Pos} (hN : X.N[i]? = some x := by rfl) (hv : Vis X.env.scope x := by first | exact Or.inl rfl | exact Or.inr (Or.inl rfl) | exact Or.inr (Or.inr rfl)) (hd : (x == ("__debug__" : Str)) = false := by decide)
    (hcd : (x == ("__classdict__" : Str)) = false := by decide) : E G X Wx (.Name x pos) (fun ρ => nm ρ i) :=
  weakE (pe_var hN hv hd hcd) fun σ H Q ⟨c, ρ, n, P, PX, I, q, hg, hx⟩ => by
    have q : nm ρ i n P PX := q
    unfold nm at q
    cases e : ρ[i]? with
    | none => rw [e] at q; exact q.elim
    | some sv =>
      rw [e] at q
      cases sv with
      | d x =>
        obtain ⟨v, e2, r⟩ := I.slots i _ e
        exact ⟨v, slot_some e2, hg.at q I r⟩
      | un => exact q.elim
      | own _ => exact q.elim
      | ownK _ => exact q.elim
      | pen => exact q.elim
      | exc _ => exact q.elim
      | lam _ _ _ _ _ => exact q.elim
      | o _ => exact q.elim
theorem e_cst {e : Expr} {v : V} {d : D} (h : PE X e (tC v)) (r : ∀ S H, Rep X.K S H d v) : E G X Wx e (fun _ => ret d) :=
  weakE h fun σ H Q ⟨c, ρ, n, P, PX, I, q, hg, hx⟩ => hg.at q I (r _ _)
theorem e_int {i : Int} {j pos} : E G X Wx (.Constant (.int i) j pos) (fun _ => ret (.int i)) := e_cst pe_int fun _ _ => rfl
theorem e_bl {b : Bool} {j pos} : E G X Wx (.Constant (.bool b) j pos) (fun _ => ret (.bl b)) := e_cst pe_bl fun _ _ => rfl
theorem e_non {j pos} : E G X Wx (.Constant .none j pos) (fun _ => ret .non) := e_cst pe_non fun _ _ => rfl
theorem e_str {x : Str} {j pos} (hz : x.length ≤ sizeLine := by decide +kernel) : E G X Wx (.Constant (.str x) j pos) (fun _ => ret (.str x)) := e_cst pe_str fun _ _ => ⟨rfl, hz⟩
/-- a constant of the module -/
theorem e_gs {x y : Str} {t : Tok} {pos : Pos} (hm : X.mg x = some (.str y t)) (hz : y.length ≤ sizeLine := by decide +kernel) (hg : Gl X x := by rfl) (hd : (x == ("__debug__" : Str)) = false := by decide) : E G X Wx (.Name x pos) (fun _ => ret (.str y)) :=
  e_cst (v := .str y) (pe_glob hg hm ⟨t, rfl⟩ hd) fun _ _ => ⟨rfl, hz⟩
theorem e_gi {x : Str} {i : Int} {t : Tok} {pos : Pos} (hm : X.mg x = some (.int i t)) (hg : Gl X x := by rfl) (hd : (x == ("__debug__" : Str)) = false := by decide) : E G X Wx (.Name x pos) (fun _ => ret (.int i)) :=
  e_cst (v := .int i) (pe_glob hg hm ⟨t, rfl⟩ hd) fun _ _ => rfl

/-! ### two parts, a rule by values -/
theorem two_parts {e : Expr} {a b : Expr} {ga gb : Env → W D} {h : D → D → W D} {r : R2} (v : V2 G X Wx h r) (ha : E G X Wx a ga) (hb : E G X Wx b gb)
    (he : PE X e (tOp r (tE G X Wx ga) (tE G X Wx gb))) : E G X Wx e (fun ρ => bnd (ga ρ) fun x => bnd (gb ρ) fun y => h x y) :=
  weakE he fun σ H Q ⟨c, ρ, n, P, PX, I, q, hg, hx⟩ => tE.bnd I q hx fun d k u S' H' p g I' hx' r' =>
    tE.bnd I' p hx' fun d2 k2 u2 S2 H2 p2 g2 I2 hx2 r2 => v _ σ ρ H2 k2 P PX d d2 u u2 Q I2 (Rep.grow g2 _ _ r') r2 p2 (hg.grow (g.trans g2)) hx2
theorem e_op {op : Operator} {a b : Expr} {pos : Pos} {ga gb : Env → W D} {h : D → D → W D} {r : R2} (o : OpR X (binaryOp op) r) (v : V2 G X Wx h r) (ha : E G X Wx a ga) (hb : E G X Wx b gb) :
    E G X Wx (.BinOp a op b pos) (fun ρ => bnd (ga ρ) fun x => bnd (gb ρ) fun y => h x y) := two_parts v ha hb (pe_op o ha hb)
theorem e_un {op : UnaryOp} {a : Expr} {pos : Pos} {ga : Env → W D} {h : D → W D} {r : V → Hp → VK → Prop} (o : UnR X (unaryOp op) r) (v : V1 G X Wx h r) (ha : E G X Wx a ga) :
    E G X Wx (.UnaryOp op a pos) (fun ρ => bnd (ga ρ) h) :=
  weakE (pe_un o ha) fun σ H Q ⟨c, ρ, n, P, PX, I, q, hg, hx⟩ => tE.bnd I q hx fun d k u S' H' p g I' hx' r' => v _ σ ρ H' k P PX d u Q I' r' p (hg.grow g) hx'
theorem e_cmpR {op : CmpOp} {a b : Expr} {pos : Pos} {ga gb : Env → W D} {h : D → D → W D} {r : R2} (o : OpR X (compareOp op) r) (v : V2 G X Wx h r) (ha : E G X Wx a ga) (hb : E G X Wx b gb) (hm : behindInMarks op b = false := by rfl) :
    E G X Wx (.Compare a [op] [b] pos) (fun ρ => bnd (ga ρ) fun x => bnd (gb ρ) fun y => h x y) := two_parts v ha hb (pe_cmpR o ha hb hm)

theorem v2_add : V2 G X Wx addD (fun x y H Q => (∃ i j, x = .int i ∧ y = .int j ∧ Q (.int (i + j)) H) ∨ (∃ i j, x = .str i ∧ y = .str j ∧ i.length + j.length ≤ sizeLine ∧ Q (.str (i ++ j)) H) ∨ rCatZ X.K x y H Q ∨ rCat x y H Q) := by
  intro c σ ρ H n P PX d e v w Q I rd re h hg hx
  cases d with
  | int i =>
    cases e with
    | int j => cases rd; cases re; exact .inl ⟨i, j, rfl, rfl, hg.at (d := .int (i + j)) h I rfl⟩
    | _ => exact h.elim
  | str a =>
    cases e with
    | str b =>
      obtain ⟨rfl, z1⟩ := rd
      obtain ⟨rfl, z2⟩ := re
      obtain ⟨z, h⟩ := h
      exact .inr (.inl ⟨a, b, rfl, rfl, z, hg.at (d := .str (a ++ b)) h I ⟨rfl, by rw [PySem.Str.length_append]; exact z⟩⟩)
    | _ => exact h.elim
  | tup xs =>
    cases e with
    | tup ys =>
      obtain ⟨z, h⟩ := h
      obtain ⟨a, vs, rfl, r1, z1, q1⟩ := id rd
      obtain ⟨b, ws, rfl, r2, z2, q2⟩ := id re
      have l1 := q1.len
      have l2 := q2.len
      refine .inr (.inr (.inl ⟨a, b, vs, ws, rfl, rfl, r1.sq, r2.sq, by omega, fun e => ?_, fun _ e => ?_, fun _ _ p o hp hd => ?_⟩))
      · have e' : xs = [] := by
          subst e
          exact List.eq_nil_of_length_eq_zero l1.symm
        subst e'
        exact hg.at h I re
      · have e' : ys = [] := by
          subst e
          exact List.eq_nil_of_length_eq_zero l2.symm
        subst e'
        rw [List.append_nil] at h
        exact hg.at h I rd
      · exact hg.new h I hp fun g => ⟨p, vs ++ ws, rfl, .inl ⟨.inr rfl, o, upd_same, hd⟩, by rw [List.length_append]; exact z, Reps.app (Reps.grow g _ _ q1) (Reps.grow g _ _ q2)⟩
    | _ => exact h.elim
  | lst xs =>
    cases e with
    | lst ys =>
      obtain ⟨z, h⟩ := h
      obtain ⟨a, vs, rfl, r1, z1, q1⟩ := rd
      obtain ⟨b, ws, rfl, r2, z2, q2⟩ := re
      have l1 := q1.len
      have l2 := q2.len
      exact .inr (.inr (.inr ⟨a, b, vs, ws, rfl, rfl, r1.2, r2.2, by omega, fun p hp => hg.new h I hp fun g => ⟨p, vs ++ ws, rfl, ⟨.inr rfl, upd_same⟩, by rw [List.length_append]; exact z, Reps.app (Reps.grow g _ _ q1) (Reps.grow g _ _ q2)⟩⟩))
    | _ => exact h.elim
  | _ => exact h.elim
theorem e_add {a b : Expr} {pos : Pos} {ga gb : Env → W D} (ha : E G X Wx a ga) (hb : E G X Wx b gb) : E G X Wx (.BinOp a .Add b pos) (fun ρ => bnd (ga ρ) fun x => bnd (gb ρ) fun y => addD x y) :=
  e_op (op_add.or (op_add_str.or (op_catZ.or op_cat))) v2_add ha hb
theorem v2_ints {h : D → D → W D} {C : Int → Int → Prop} {g : Int → Int → Int} (hh : ∀ d e n P PX, h d e n P PX → ∃ i j, d = .int i ∧ e = .int j ∧ C i j ∧ P (.int (g i j)) n) : V2 G X Wx h (rI C fun i j => .int (g i j)) := by
  intro c σ ρ H n P PX d e v w Q I rd re q hg hx
  obtain ⟨i, j, rfl, rfl, q1, q2⟩ := hh d e n P PX q
  cases rd; cases re
  exact ⟨i, j, rfl, rfl, q1, hg.at (d := .int (g i j)) q2 I rfl⟩
theorem e_sub {a b : Expr} {pos : Pos} {ga gb : Env → W D} (ha : E G X Wx a ga) (hb : E G X Wx b gb) : E G X Wx (.BinOp a .Sub b pos) (fun ρ => bnd (ga ρ) fun x => bnd (gb ρ) fun y => subD x y) :=
  e_op op_sub (by
    intro c σ ρ H n P PX d e v w Q I rd re q hg hx
    unfold subD at q
    split at q
    · cases rd; cases re; exact ⟨_, _, rfl, rfl, hg.at (d := .int _) q I rfl⟩
    · exact q.elim) ha hb
theorem e_fdiv {a b : Expr} {pos : Pos} {ga gb : Env → W D} (ha : E G X Wx a ga) (hb : E G X Wx b gb) : E G X Wx (.BinOp a .FloorDiv b pos) (fun ρ => bnd (ga ρ) fun x => bnd (gb ρ) fun y => fdivD x y) :=
  e_op op_fdiv (v2_ints fun d e n P PX q => by
    unfold fdivD at q
    split at q
    · exact ⟨_, _, rfl, rfl, q.1, q.2⟩
    · exact q.elim) ha hb
theorem e_mod {a b : Expr} {pos : Pos} {ga gb : Env → W D} (ha : E G X Wx a ga) (hb : E G X Wx b gb) : E G X Wx (.BinOp a .Mod b pos) (fun ρ => bnd (ga ρ) fun x => bnd (gb ρ) fun y => modD x y) :=
  e_op op_mod (v2_ints (C := fun _ j => 0 < j) fun d e n P PX q => by
    unfold modD at q
    split at q
    · exact ⟨_, _, rfl, rfl, q.1, q.2⟩
    · exact q.elim) ha hb
theorem e_pow {a b : Expr} {pos : Pos} {ga gb : Env → W D} (ha : E G X Wx a ga) (hb : E G X Wx b gb) : E G X Wx (.BinOp a .Pow b pos) (fun ρ => bnd (ga ρ) fun x => bnd (gb ρ) fun y => powD x y) :=
  e_op op_pow (v2_ints fun d e n P PX q => by
    unfold powD at q
    split at q
    · exact ⟨_, _, rfl, rfl, q.1, q.2⟩
    · exact q.elim) ha hb
theorem e_neg {a : Expr} {pos : Pos} {ga : Env → W D} (ha : E G X Wx a ga) : E G X Wx (.UnaryOp .USub a pos) (fun ρ => bnd (ga ρ) negD) :=
  e_un un_neg (by
    intro c σ ρ H n P PX d v Q I rd q hg hx
    cases d with
    | int i => cases rd; exact ⟨i, rfl, hg.at (d := .int (-i)) q I rfl⟩
    | _ => exact q.elim) ha

/-! ### comparisons -/
mutual
theorem Rep.dp {K : PySem.W.Frag} {S : Addr → Prop} {H : Hp} : ∀ (d : D) (v : V), (py d).canLay0 = true → Rep K S H d v → Dp K H v (py d)
  | .non, _, _, h => by cases h; exact .non
  | .bl _, _, _, h => by cases h; exact .bl _
  | .int _, _, _, h => by cases h; exact .int _
  | .str _, _, _, h => by obtain ⟨rfl, _⟩ := h; exact .str _
  | .lst xs, _, l, h => by
    obtain ⟨a, vs, rfl, r, _, q⟩ := h
    exact .lst r.sq (Reps.dp xs vs (by simpa [py, PyData.canLay0] using l) q)
  | .tup xs, _, l, h => by
    obtain ⟨a, vs, rfl, r, _, q⟩ := h
    exact .tup r.sq (Reps.dp xs vs (by simpa [py, PyData.canLay0] using l) q)
  | .dic kvs, _, l, h => by simp [py, PyData.canLay0] at l
  | .ins _ _ _, _, l, h => by unfold py PyData.canLay0 at l; cases l
theorem Reps.dp {K : PySem.W.Frag} {S : Addr → Prop} {H : Hp} : ∀ (xs : List D) (vs : List V), PyData.canLayAll0 (pys xs) = true → Reps K S H xs vs → DpAll K H vs (pys xs)
  | [], _, _, h => by
    have e : _ = [] := h
    rw [e]
    exact .nil
  | x :: xs, _, l, h => by
    obtain ⟨v, ws, rfl, r, q⟩ := h
    have l' : (py x).canLay0 = true ∧ PyData.canLayAll0 (pys xs) = true := by simpa [pys, PyData.canLayAll0] using l
    exact .cons (Rep.dp x v l'.1 r) (Reps.dp xs ws l'.2 q)
end
def rLen (K : PySem.W.Frag) (b : Bool) : R2 := fun x y H Q => ∃ p q xs ys, x = .ref p ∧ y = .ref q ∧ SqL K H p xs ∧ SqL K H q ys ∧ xs.length ≠ ys.length ∧ Q (.bl b) H
theorem op_eqLen (hu : X.A.units + 64 < cLine) : OpR X (compareOp .Eq) (rLen X.K false) := by
  intro pins s σ H x y v u Q I rx ry ⟨p, q, xs, ys, e1, e2, h1, h2, hn, k⟩
  subst e1 e2
  cases rx
  cases ry
  obtain ⟨i1, r1, p1, _⟩ := I.list h1
  obtain ⟨i2, r2, p2, _⟩ := I.list h2
  exact SeqAt.eq_list_lengthsAt p1.isList p2.isList (by simp only [List.size_toArray, ← r1.length, ← r2.length]; simpa using hn) (by omega) ⟨.bl false, H, I, rfl, k⟩
theorem op_neLen (hu : X.A.units + 64 < cLine) : OpR X (compareOp .NotEq) (rLen X.K true) := by
  intro pins s σ H x y v u Q I rx ry ⟨p, q, xs, ys, e1, e2, h1, h2, hn, k⟩
  subst e1 e2
  cases rx
  cases ry
  obtain ⟨i1, r1, p1, _⟩ := I.list h1
  obtain ⟨i2, r2, p2, _⟩ := I.list h2
  exact SeqAt.RcNeAt.lists_lengths p1.isList p2.isList (by simp only [List.size_toArray, ← r1.length, ← r2.length]; simpa using hn) (by omega) _ _ _ _ ⟨.bl true, H, I, rfl, k⟩
theorem Rep.len_ne {K : PySem.W.Frag} {S : Addr → Prop} {H : Hp} {xs ys : List D} {v w : V} {b : Bool} {Q : VK} (h : xs.length ≠ ys.length) (rd : Rep K S H (.lst xs) v) (re : Rep K S H (.lst ys) w) (k : Q (.bl b) H) : rLen K b v w H Q := by
  obtain ⟨p, vs, rfl, r1, _, q1⟩ := rd
  obtain ⟨q, ws, rfl, r2, _, q2⟩ := re
  exact ⟨p, q, vs, ws, rfl, rfl, r1.sq, r2.sq, by rw [q1.len, q2.len]; exact h, k⟩
theorem v2_eq : V2 G X Wx eqD (fun x y H Q => (rEqD X.K x y H Q ∨ rLen X.K false x y H Q) ∨ rEq x y H Q) := by
  intro c σ ρ H n P PX d e v w Q I rd re ⟨h, q⟩ hg hx
  rcases h with ⟨h1, h2⟩ | h | h
  · exact .inl (.inl ⟨py d, py e, Rep.dp d v (SeqAt.canLay_of_shaped h1) rd, Rep.dp e w (SeqAt.canLay_of_shaped h2) re, h1, h2, hg.at (d := .bl _) q I rfl⟩)
  · obtain ⟨xs, ys, rfl, rfl, hn, he⟩ := difL_eqv h
    refine .inl (.inr (Rep.len_ne hn rd re ?_))
    have q : P (.bl (PyData.eqv (py (.lst xs)) (py (.lst ys)))) n := q
    rw [he] at q
    exact hg.at (d := .bl false) q I rfl
  · unfold strS at h
    split at h
    · rename_i a b
      obtain ⟨rfl, _⟩ := rd
      obtain ⟨rfl, _⟩ := re
      have q : P (.bl (PyData.eqv (py (.str a)) (py (.str b)))) n := q
      have e2 : PyData.eqv (py (.str a)) (py (.str b)) = decide (V.str a = V.str b) := by
        simp only [py, PyData.eqv]
        by_cases z : a = b
        · subst z; simp
        · have z2 : ¬ V.str a = V.str b := fun k => z (by cases k; rfl)
          simp [z]
      rw [e2] at q
      exact .inr ⟨rfl, hg.at (d := .bl _) q I rfl⟩
    · cases h
theorem v2_ne : V2 G X Wx neD (fun x y H Q => (rNeD X.K x y H Q ∨ rLen X.K true x y H Q) ∨ rNe x y H Q) := by
  intro c σ ρ H n P PX d e v w Q I rd re ⟨h, q⟩ hg hx
  rcases h with ⟨h1, h2⟩ | h | h
  · exact .inl (.inl ⟨py d, py e, Rep.dp d v (SeqAt.canLay_of_shaped h1) rd, Rep.dp e w (SeqAt.canLay_of_shaped h2) re, h1, h2, hg.at (d := .bl _) q I rfl⟩)
  · obtain ⟨xs, ys, rfl, rfl, hn, he⟩ := difL_eqv h
    refine .inl (.inr (Rep.len_ne hn rd re ?_))
    have q : P (.bl (!PyData.eqv (py (.lst xs)) (py (.lst ys)))) n := q
    rw [he] at q
    exact hg.at (d := .bl true) q I rfl
  · unfold strS at h
    split at h
    · rename_i a b
      obtain ⟨rfl, _⟩ := rd
      obtain ⟨rfl, _⟩ := re
      have q : P (.bl (!PyData.eqv (py (.str a)) (py (.str b)))) n := q
      have e2 : PyData.eqv (py (.str a)) (py (.str b)) = decide (V.str a = V.str b) := by
        simp only [py, PyData.eqv]
        by_cases z : a = b
        · subst z; simp
        · have z2 : ¬ V.str a = V.str b := fun k => z (by cases k; rfl)
          simp [z]
      rw [e2] at q
      exact .inr ⟨rfl, hg.at (d := .bl _) q I rfl⟩
    · cases h
/-- ints or texts -/
theorem v2_ord {h : D → D → W D} {fi : Int → Int → Bool} {fs : Str → Str → Bool}
    (hh : ∀ d e n P PX, h d e n P PX → (∃ i j, d = .int i ∧ e = .int j ∧ P (.bl (fi i j)) n) ∨ ∃ i j, d = .str i ∧ e = .str j ∧ P (.bl (fs i j)) n) :
    V2 G X Wx h (fun x y H Q => (∃ i j, x = .int i ∧ y = .int j ∧ Q (.bl (fi i j)) H) ∨ ∃ i j, x = .str i ∧ y = .str j ∧ Q (.bl (fs i j)) H) := by
  intro c σ ρ H n P PX d e v w Q I rd re q hg hx
  rcases hh d e n P PX q with ⟨i, j, rfl, rfl, q2⟩ | ⟨i, j, rfl, rfl, q2⟩
  · cases rd; cases re; exact .inl ⟨i, j, rfl, rfl, hg.at (d := .bl (fi i j)) q2 I rfl⟩
  · obtain ⟨rfl, _⟩ := rd; obtain ⟨rfl, _⟩ := re; exact .inr ⟨i, j, rfl, rfl, hg.at (d := .bl (fs i j)) q2 I rfl⟩
theorem v2_lt : V2 G X Wx ltD (fun x y H Q => (∃ i j, x = .int i ∧ y = .int j ∧ Q (.bl (decide (i < j))) H) ∨ ∃ i j, x = .str i ∧ y = .str j ∧ Q (.bl (decide (i.cps.toList < j.cps.toList))) H) :=
  v2_ord (fi := fun i j => decide (i < j)) (fs := fun i j => decide (i.cps.toList < j.cps.toList)) fun d e n P PX q => by
    unfold ltD at q
    split at q
    · exact .inl ⟨_, _, rfl, rfl, q⟩
    · exact .inr ⟨_, _, rfl, rfl, q⟩
    · exact q.elim
theorem v2_le : V2 G X Wx leD (fun x y H Q => (∃ i j, x = .int i ∧ y = .int j ∧ Q (.bl (decide (i ≤ j))) H) ∨ ∃ i j, x = .str i ∧ y = .str j ∧ Q (.bl (!decide (j.cps.toList < i.cps.toList))) H) :=
  v2_ord (fi := fun i j => decide (i ≤ j)) (fs := fun i j => !decide (j.cps.toList < i.cps.toList)) fun d e n P PX q => by
    unfold leD at q
    split at q
    · exact .inl ⟨_, _, rfl, rfl, q⟩
    · exact .inr ⟨_, _, rfl, rfl, q⟩
    · exact q.elim
theorem v2_gt : V2 G X Wx gtD (fun x y H Q => (∃ i j, x = .int i ∧ y = .int j ∧ Q (.bl (decide (j < i))) H) ∨ ∃ i j, x = .str i ∧ y = .str j ∧ Q (.bl (decide (j.cps.toList < i.cps.toList))) H) :=
  v2_ord (fi := fun i j => decide (j < i)) (fs := fun i j => decide (j.cps.toList < i.cps.toList)) fun d e n P PX q => by
    unfold gtD at q
    split at q
    · exact .inl ⟨_, _, rfl, rfl, q⟩
    · exact .inr ⟨_, _, rfl, rfl, q⟩
    · exact q.elim
theorem v2_ge : V2 G X Wx geD (fun x y H Q => (∃ i j, x = .int i ∧ y = .int j ∧ Q (.bl (decide (j ≤ i))) H) ∨ ∃ i j, x = .str i ∧ y = .str j ∧ Q (.bl (!decide (i.cps.toList < j.cps.toList))) H) :=
  v2_ord (fi := fun i j => decide (j ≤ i)) (fs := fun i j => !decide (i.cps.toList < j.cps.toList)) fun d e n P PX q => by
    unfold geD at q
    split at q
    · exact .inl ⟨_, _, rfl, rfl, q⟩
    · exact .inr ⟨_, _, rfl, rfl, q⟩
    · exact q.elim
theorem Rep.isN {K : PySem.W.Frag} {S : Addr → Prop} {H : Hp} {d : D} {v : V} (r : Rep K S H d v) : decide (v = .non) = isNone d := by
  cases d with
  | non => cases r; rfl
  | bl _ => cases r; rfl
  | int _ => cases r; rfl
  | str _ => obtain ⟨rfl, _⟩ := r; rfl
  | lst _ => obtain ⟨_, _, rfl, _⟩ := r; rfl
  | tup _ => obtain ⟨_, _, rfl, _⟩ := r; rfl
  | dic _ => obtain ⟨_, _, rfl, _⟩ := r; rfl
  | ins _ _ _ => obtain ⟨_, _, _, _, rfl, _⟩ := r; rfl
theorem v2_is : V2 G X Wx isND (fun x y H Q => (y = .non ∧ Q (.bl (decide (x = .non))) H) ∨ rIsB x y H Q) := by
  intro c σ ρ H n P PX d e v w Q I rd re q hg hx
  cases e with
  | non => cases re; exact .inl ⟨rfl, by rw [rd.isN]; exact hg.at (d := .bl _) q I rfl⟩
  | bl y =>
    cases d with
    | bl x => cases re; cases rd; exact .inr ⟨x, y, rfl, rfl, hg.at (d := .bl _) q I rfl⟩
    | _ => exact q.elim
  | _ => exact q.elim
/-- a comparison's rule: operator, function over data -/
structure Cm (G : PenK) (X : Cx) (Wx : WX) (op : CmpOp) (h : D → D → W D) : Prop where
  ex : ∃ r, OpR X (compareOp op) r ∧ V2 G X Wx h r
theorem cm_eq (hu : X.A.units + 64 < cLine) : Cm G X Wx .Eq eqD := ⟨_, ((op_eqD hu).or (op_eqLen hu)).or op_eq, v2_eq⟩
theorem cm_ne (hu : X.A.units + 64 < cLine) : Cm G X Wx .NotEq neD := ⟨_, ((op_neD hu).or (op_neLen hu)).or op_ne, v2_ne⟩
theorem cm_lt : Cm G X Wx .Lt ltD := ⟨_, op_lt.or op_lt_str, v2_lt⟩
theorem cm_le : Cm G X Wx .LtE leD := ⟨_, op_le.or op_le_str, v2_le⟩
theorem cm_gt : Cm G X Wx .Gt gtD := ⟨_, op_gt.or op_gt_str, v2_gt⟩
theorem cm_ge : Cm G X Wx .GtE geD := ⟨_, op_ge.or op_ge_str, v2_ge⟩
theorem cm_is : Cm G X Wx .Is isND := ⟨_, op_isN.or op_isBl, v2_is⟩
theorem e_cmp {op : CmpOp} {a b : Expr} {pos : Pos} {ga gb : Env → W D} {h : D → D → W D} (m : Cm G X Wx op h) (ha : E G X Wx a ga) (hb : E G X Wx b gb) (hm : behindInMarks op b = false := by rfl) :
    E G X Wx (.Compare a [op] [b] pos) (fun ρ => bnd (ga ρ) fun x => bnd (gb ρ) fun y => h x y) := by
  obtain ⟨r, o, v⟩ := m.ex
  exact e_cmpR o v ha hb hm
def thenB (m : W D) (k : W D) : W D := bnd m fun z => match z with
  | .bl true => k
  | .bl false => ret (.bl false)
  | _ => stuck
def blB : D → W Bool
  | .bl b => ret b
  | _ => stuck
/-- a value's law as a test's -/
theorem tE_test {g : Env → W D} {σ : L2.St} {H : Hp} {Q : Bool → Hp → Prop} (h : tT G X Wx (fun ρ => bnd (g ρ) blB) σ H Q) : tE G X Wx g σ H (fun x H' => ∃ k, x = .bl k ∧ Q k H') := by
  obtain ⟨c, ρ, n, P, PX, I, q, hg, hx⟩ := h
  refine ⟨c, ρ, n, _, PX, I, q, fun d k v S' H' p g I' r => ?_, hx⟩
  cases d with
  | bl b => cases r; exact ⟨b, rfl, hg b k S' H' p g I'⟩
  | _ => exact p.elim
theorem tOp_law {ga gb : Env → W D} {h : D → D → W D} {r : R2} (v : V2 G X Wx h r) {σ : L2.St} {H : Hp} {Q : VK} (hh : tE G X Wx (fun ρ => bnd (ga ρ) fun x => bnd (gb ρ) fun y => h x y) σ H Q) : tOp r (tE G X Wx ga) (tE G X Wx gb) σ H Q := by
  obtain ⟨c, ρ, n, P, PX, I, q, hg, hx⟩ := hh
  exact tE.bnd I q hx fun d k u S' H' p g I' hx' r' =>
    tE.bnd I' p hx' fun d2 k2 u2 S2 H2 p2 g2 I2 hx2 r2 => v _ σ ρ H2 k2 P PX d d2 u u2 Q I2 (Rep.grow g2 _ _ r') r2 p2 (hg.grow (g.trans g2)) hx2
/-- a test a < b -/
theorem t_cmp {op : CmpOp} {a b : Expr} {pos : Pos} {ga gb : Env → W D} {h : D → D → W D} (m : Cm G X Wx op h) (ha : E G X Wx a ga) (hb : E G X Wx b gb) (hm : behindInMarks op b = false := by rfl) :
    T G X Wx (.Compare a [op] [b] pos) (fun ρ => bnd (bnd (ga ρ) fun x => bnd (gb ρ) fun y => h x y) blB) := by
  obtain ⟨r, o, v⟩ := m.ex
  exact weakT (pt_cmpR o ha hb hm) fun σ H Q q => tOp_law v (tE_test q)
theorem tChain_law {ga gb gd : Env → W D} {h h' : D → D → W D} {r r' : R2} (v : V2 G X Wx h r) (v' : V2 G X Wx h' r') {σ : L2.St} {H : Hp} {Q : VK} (hh : tE G X Wx (fun ρ => bnd (ga ρ) fun x => bnd (gb ρ) fun y => thenB (h x y) (bnd (gd ρ) fun z => h' y z)) σ H Q) : tChain r r' (tE G X Wx ga) (tE G X Wx gb) (tE G X Wx gd) σ H Q := by
  obtain ⟨c, ρ, n, P, PX, I, q, hg, hx⟩ := hh
  refine tE.bnd I q hx fun d1 k u S' H' p g I' hx' r1 =>
    tE.bnd I' p hx' fun d2 k2 u2 S2 H2 p2 g2 I2 hx2 r2 => v _ σ ρ H2 k2 (fun z k => (match z with
      | .bl true => bnd (gd ρ) fun z => h' d2 z
      | .bl false => ret (.bl false)
      | _ => stuck : W D) k P PX) PX d1 d2 u u2 _ I2 (Rep.grow g2 _ _ r1) r2 p2 (fun z k3 w S3 H3 p3 g3 I3 r3 => ?_) hx2
  cases z with
  | bl b =>
    cases r3
    cases b with
    | true => exact ⟨true, rfl, iteT (tE.bnd I3 p3 (hx2.grow g3) fun d4 k4 u4 S4 H4 p4 g4 I4 hx4 r4 => v' _ σ ρ H4 k4 P PX d2 d4 u2 u4 Q I4 (Rep.grow (g3.trans g4) _ _ r2) r4 p4 (hg.grow (g.trans (g2.trans (g3.trans g4)))) hx4)⟩
    | false => exact ⟨false, rfl, iteF ((hg.grow (g.trans (g2.trans g3))).at (d := .bl false) p3 I3 rfl)⟩
  | _ => exact p3.elim
/-- a < b < c -/
theorem e_chain {op op' : CmpOp} {a b d : Expr} {pos : Pos} {ga gb gd : Env → W D} {h h' : D → D → W D} (m : Cm G X Wx op h) (m' : Cm G X Wx op' h') (ha : E G X Wx a ga) (hb : E G X Wx b gb) (hd : E G X Wx d gd)
    (hm : lastMarks [op, op'] [b, d] = false := by with_unfolding_all rfl) :
    E G X Wx (.Compare a [op, op'] [b, d] pos) (fun ρ => bnd (ga ρ) fun x => bnd (gb ρ) fun y => thenB (h x y) (bnd (gd ρ) fun z => h' y z)) := by
  obtain ⟨r, o, v⟩ := m.ex
  obtain ⟨r', o', v'⟩ := m'.ex
  exact weakE (pe_chain o o' ha hb hd hm) fun σ H Q q => tChain_law v v' q
/-- a test a < b < c -/
theorem t_chain {op op' : CmpOp} {a b d : Expr} {pos : Pos} {ga gb gd : Env → W D} {h h' : D → D → W D} (m : Cm G X Wx op h) (m' : Cm G X Wx op' h') (ha : E G X Wx a ga) (hb : E G X Wx b gb) (hd : E G X Wx d gd)
    (hm : lastMarks [op, op'] [b, d] = false := by with_unfolding_all rfl) :
    T G X Wx (.Compare a [op, op'] [b, d] pos) (fun ρ => bnd (bnd (ga ρ) fun x => bnd (gb ρ) fun y => thenB (h x y) (bnd (gd ρ) fun z => h' y z)) blB) := by
  obtain ⟨r, o, v⟩ := m.ex
  obtain ⟨r', o', v'⟩ := m'.ex
  exact weakT (pt_chain o o' ha hb hd hm) fun σ H Q q => tChain_law v v' (tE_test q)
end
end PL

/-! The layer: truth, displays, subscripts, slices, arguments, built-ins. -/
namespace PL
open PySem PySem.Spec L2

section
variable {G : PenK} {X : Cx} {Wx : WX}

/-! ### truth -/
theorem Rep.tru {K : PySem.W.Frag} {S : Addr → Prop} {H : Hp} {d : D} {v : V} {n : Nt} {P : Bool → Nt → Prop} {PX : Exc → Nt → Prop} (r : Rep K S H d v) (q : PL.tru d n P PX) : ∃ b, TruV K v H b ∧ P b n := by
  cases d with
  | non => cases r; exact ⟨_, rfl, q⟩
  | bl _ => cases r; exact ⟨_, rfl, q⟩
  | int _ => cases r; exact ⟨_, rfl, q⟩
  | str _ => obtain ⟨rfl, z⟩ := r; exact ⟨_, ⟨z, rfl⟩, q⟩
  | lst xs =>
    obtain ⟨a, vs, rfl, r1, _, q1⟩ := r
    refine ⟨!xs.isEmpty, .inl ⟨vs, r1.sq, ?_⟩, q⟩
    have := q1.len
    cases xs <;> cases vs <;> first | rfl | cases this
  | tup xs =>
    obtain ⟨a, vs, rfl, r1, _, q1⟩ := r
    refine ⟨!xs.isEmpty, .inr (.inl ⟨vs, r1.sq, ?_⟩), q⟩
    have := q1.len
    cases xs <;> cases vs <;> first | rfl | cases this
  | dic kvs =>
    exact q.elim
  | ins _ _ _ => exact q.elim
theorem t_truth {e : Expr} {g : Env → W D} (h : E G X Wx e g) (he : ∀ whole, isTrue e X.env whole = (do let v ← whole; standAt e.pos; holding [v] (truthy v)) := by intro _; rfl) : T G X Wx e (fun ρ => bnd (g ρ) tru) :=
  weakT (pt_truth h he) fun σ H Q ⟨c, ρ, n, P, PX, I, q, hg, hx⟩ => tE.bnd I q hx fun d k u S' H' p g I' hx' r => by
    obtain ⟨b, h1, h2⟩ := r.tru p
    exact ⟨b, h1, hg b k S' H' h2 g I'⟩
theorem t_not {e : Expr} {pos : Pos} {g : Env → W Bool} (h : T G X Wx e g) : T G X Wx (.UnaryOp .Not e pos) (fun ρ => bnd (g ρ) fun b => ret (!b)) :=
  weakT (pt_not h) fun σ H Q ⟨c, ρ, n, P, PX, I, q, hg, hx⟩ => tT.bnd I q hx fun b k S' H' p g I' hx' => hg (!b) k S' H' p g I'
def TW (G : PenK) (X : Cx) (Wx : WX) (e : Expr) (g : Env → W Bool) : Prop := PW X e (tT G X Wx g)
theorem tw_and1 {e : Expr} {pos : Pos} {g : Env → W Bool} (h : T G X Wx e g) : TW G X Wx (.BoolOp .And [e] pos) g := pw_and1 h
theorem tw_or1 {e : Expr} {pos : Pos} {g : Env → W Bool} (h : T G X Wx e g) : TW G X Wx (.BoolOp .Or [e] pos) g := pw_or1 h
theorem tw_and {a b : Expr} {rest : List Expr} {pos : Pos} {ga gb : Env → W Bool} (ha : T G X Wx a ga) (hb : TW G X Wx (.BoolOp .And (b :: rest) pos) gb) :
    TW G X Wx (.BoolOp .And (a :: b :: rest) pos) (fun ρ => bnd (ga ρ) fun x => if x = true then gb ρ else ret false) :=
  weakW (pw_and ha hb) fun σ H Q ⟨c, ρ, n, P, PX, I, q, hg, hx⟩ => tT.bnd I q hx fun b k S' H' p g I' hx' => by
    cases b with
    | true => exact iteT ⟨_, ρ, k, P, PX, I', p, hg.grow g, hx'⟩
    | false => exact iteF (hg false k S' H' p g I')
theorem tw_or {a b : Expr} {rest : List Expr} {pos : Pos} {ga gb : Env → W Bool} (ha : T G X Wx a ga) (hb : TW G X Wx (.BoolOp .Or (b :: rest) pos) gb) :
    TW G X Wx (.BoolOp .Or (a :: b :: rest) pos) (fun ρ => bnd (ga ρ) fun x => if x = true then ret true else gb ρ) :=
  weakW (pw_or ha hb) fun σ H Q ⟨c, ρ, n, P, PX, I, q, hg, hx⟩ => tT.bnd I q hx fun b k S' H' p g I' hx' => by
    cases b with
    | true => exact iteT (hg true k S' H' p g I')
    | false => exact iteF ⟨_, ρ, k, P, PX, I', p, hg.grow g, hx'⟩
theorem TW.t {e : Expr} {g : Env → W Bool} (h : TW G X Wx e g) : T G X Wx e g := PW.pt h
/-- and, or as values -/
theorem e_one {op} {a : Expr} {pos : Pos} {g : Env → W D} (h : E G X Wx a g) : E G X Wx (.BoolOp op [a] pos) g := pe_one h
theorem e_and {a b : Expr} {rest : List Expr} {pos : Pos} {ga gb : Env → W D} (ha : E G X Wx a ga) (hb : E G X Wx (.BoolOp .And (b :: rest) pos) gb) :
    E G X Wx (.BoolOp .And (a :: b :: rest) pos) (fun ρ => bnd (ga ρ) fun x => bnd (tru x) fun k => if k = true then gb ρ else ret x) :=
  weakE (pe_andT ha hb) fun σ H Q ⟨c, ρ, n, P, PX, I, q, hg, hx⟩ => tE.bnd I q hx fun d k u S' H' p g I' hx' r => by
    obtain ⟨b, h1, h2⟩ := r.tru p
    refine ⟨b, h1, ?_⟩
    cases b with
    | true => exact iteT ⟨_, ρ, k, P, PX, I', h2, hg.grow g, hx'⟩
    | false => exact iteF (hg d k u S' H' h2 g I' r)
theorem e_not {a : Expr} {pos : Pos} {ga : Env → W D} (ha : E G X Wx a ga) : E G X Wx (.UnaryOp .Not a pos) (fun ρ => bnd (ga ρ) fun x => bnd (tru x) fun k => ret (.bl (!k))) :=
  weakE (pe_notT ha) fun σ H Q ⟨c, ρ, n, P, PX, I, q, hg, hx⟩ => tE.bnd I q hx fun d k u S' H' p g I' hx' r => by
    obtain ⟨b, h1, h2⟩ := r.tru p
    exact ⟨b, h1, hg (.bl (!b)) k _ S' H' h2 g I' rfl⟩
theorem e_if {t a b : Expr} {pos : Pos} {gt : Env → W Bool} {ga gb : Env → W D} (ht : T G X Wx t gt) (ha : E G X Wx a ga) (hb : E G X Wx b gb) :
    E G X Wx (.IfExp t a b pos) (fun ρ => bnd (gt ρ) fun x => if x = true then ga ρ else gb ρ) :=
  weakE (pe_ifExp ht ha hb) fun σ H Q ⟨c, ρ, n, P, PX, I, q, hg, hx⟩ => tT.bnd I q hx fun b k S' H' p g I' hx' => by
    cases b with
    | true => exact iteT ⟨_, ρ, k, P, PX, I', p, hg.grow g, hx'⟩
    | false => exact iteF ⟨_, ρ, k, P, PX, I', p, hg.grow g, hx'⟩

/-! ### arguments, displays -/
theorem a_nil : A G X Wx [] (fun _ => ret []) := weakA pa_nil fun σ H Q ⟨c, ρ, n, P, PX, I, q, hg, hx⟩ => hg [] n [] c.S H q .refl I rfl
theorem a_cons {e : Expr} {es : List Expr} {g : Env → W D} {gs : Env → W (List D)} (h : E G X Wx e g) (hs : A G X Wx es gs) (hp : starEach (e :: es) X.env = (false, eval e X.env) :: starEach es X.env := by rfl) :
    A G X Wx (e :: es) (fun ρ => bnd (g ρ) fun x => bnd (gs ρ) fun xs => ret (x :: xs)) :=
  weakA (pa_cons h hs hp) fun σ H Q ⟨c, ρ, n, P, PX, I, q, hg, hx⟩ => tE.bnd I q hx fun d k u S' H' p g I' hx' r => tAr.bnd I' p hx' fun ds k2 us S2 H2 p2 g2 I2 hx2 r2 =>
    hg (d :: ds) k2 (u :: us) S2 H2 p2 (g.trans g2) I2 ⟨u, us, rfl, Rep.grow g2 _ _ r, r2⟩
def few (xs : List D) (m : W α) : W α := grd (xs.length ≤ sizeLine) m
theorem e_tup {es : List Expr} {x1 : Nat} {pos : Pos} {gs : Env → W (List D)} (h : A G X Wx es gs) : E G X Wx (.Tuple es x1 pos) (fun ρ => bnd (gs ρ) fun xs => few xs (ret (.tup xs))) :=
  weakE (pe_tupZ h) fun σ H Q ⟨c, ρ, n, P, PX, I, q, hg, hx⟩ => tAr.bnd I q hx fun ds k us S' H' ⟨z, p⟩ g I' hx' r => ⟨by rw [r.len]; exact z, fun a o ha hd =>
    (hg.grow g).new p I' ha fun g2 => ⟨a, us, rfl, .inl ⟨.inr rfl, o, upd_same, hd⟩, z, Reps.grow g2 _ _ r⟩⟩
theorem o_lst {es : List Expr} {pos : Pos} {gs : Env → W (List D)} (h : A G X Wx es gs) : EO G X Wx (.List es pos) (fun ρ => bnd (gs ρ) fun xs => few xs (ret xs)) :=
  weakE (pe_lst h) fun σ H Q ⟨c, ρ, n, P, PX, I, q, hg, hx⟩ => tAr.bnd I q hx fun ds k us S' H' ⟨z, p⟩ g I' hx' r => ⟨by rw [r.len]; exact z, fun a ha =>
    (hg.grow g).new p I' ha z r⟩

/-! ### subscripts, slices -/
theorem atI_len {α β : Type} {xs : List α} {ys : List β} {i : Int} {y : β} (e : xs.length = ys.length) (h : atI ys i = some y) : ∃ j : Nat, ys[j]? = some y ∧ ∀ x : α, xs[j]? = some x → atI xs i = some x := by
  unfold atI at *
  cases q : ixN ys.length i with
  | none => rw [q] at h; cases h
  | some j =>
    rw [q] at h
    exact ⟨j, h, fun x hx => by rw [e, q]; exact hx⟩
theorem v2_ix : V2 G X Wx ixD (rIx X.K) := by
  intro c σ ρ H n P PX d e v w Q I rd re q hg hx
  cases e with
  | int i =>
    cases re
    cases d with
    | lst xs =>
      obtain ⟨a, vs, rfl, r1, _, q1⟩ := rd
      have q : (match atI xs i with | some x => ret x | none => stuck : W D) n P PX := q
      cases hx : atI xs i with
      | none => rw [hx] at q; exact q.elim
      | some x =>
        rw [hx] at q
        obtain ⟨j, e1, e2⟩ := atI_len q1.len hx
        obtain ⟨u, h1, h2⟩ := Reps.at q1 e1
        exact .inl ⟨a, vs, _, u, rfl, rfl, r1.sq, e2 u h1, hg.at q I h2⟩
    | tup xs =>
      obtain ⟨a, vs, rfl, r1, _, q1⟩ := rd
      have q : (match atI xs i with | some x => ret x | none => stuck : W D) n P PX := q
      cases hx : atI xs i with
      | none => rw [hx] at q; exact q.elim
      | some x =>
        rw [hx] at q
        obtain ⟨j, e1, e2⟩ := atI_len q1.len hx
        obtain ⟨u, h1, h2⟩ := Reps.at q1 e1
        exact .inr (.inl ⟨a, vs, _, u, rfl, rfl, r1.sq, e2 u h1, hg.at q I h2⟩)
    | str z =>
      obtain ⟨rfl, hz⟩ := rd
      have q : (match atI z.cps.toList i with | some k => ret (.str ⟨#[k]⟩) | none => stuck : W D) n P PX := q
      cases hx : atI z.cps.toList i with
      | none => rw [hx] at q; exact q.elim
      | some k =>
        rw [hx] at q
        exact .inr (.inr ⟨_, _, k, rfl, rfl, hz, hx, hg.at (d := .str ⟨#[k]⟩) q I ⟨rfl, by rw [sizeLine_eq]; show 1 ≤ 16777216; decide⟩⟩)
    | _ => exact q.elim
  | _ => cases d <;> exact q.elim
theorem e_ix {a b : Expr} {pos : Pos} {ga gb : Env → W D} (ha : E G X Wx a ga) (hb : E G X Wx b gb) (hs : PlainIx b := by intro _ _; rfl) : E G X Wx (.Subscript a b pos) (fun ρ => bnd (ga ρ) fun x => bnd (gb ρ) fun y => ixD x y) :=
  two_parts v2_ix ha hb (pe_ix ix_seq ha hb hs)
/-- a part of a slice -/
def PP (G : PenK) (X : Cx) (Wx : WX) (e : Option Expr) (g : Env → W (Option Int)) : Prop :=
  ∃ t, PO X e t ∧ ∀ c ρ n P PX σ H Q, SI G X.K c σ H ρ n → g ρ n P PX → OKx G X Wx c σ ρ H PX → (∀ o k S' H', P o k → Grow c.S S' H H' → SI G X.K (c.to S') σ H' ρ k → Q o H') → t σ H Q
theorem p_none : PP G X Wx none (fun _ => ret none) := ⟨_, po_none, fun c ρ n P PX σ H Q I q hx hg => hg none n c.S H q .refl I⟩
def intO : D → W (Option Int)
  | .int i => ret (some i)
  | _ => stuck
theorem p_some {e : Expr} {g : Env → W D} (h : E G X Wx e g) : PP G X Wx (some e) (fun ρ => bnd (g ρ) intO) :=
  ⟨_, po_some h, fun c ρ n P PX σ H Q I q hx hg => tE.bnd I q hx fun d k u S' H' p g I' hx' r => by
    cases d with
    | int i => cases r; exact ⟨i, rfl, hg (some i) k S' H' p g I'⟩
    | _ => exact p.elim⟩
def slD (d : D) (lo hi : Option Int) : W D := match d with
  | .tup xs => ret (.tup (cutD xs lo hi))
  | .str z => ret (.str (cutS z lo hi))
  | .lst xs => ret (.lst (cutD xs lo hi))
  | _ => stuck
theorem Reps.cut {K : PySem.W.Frag} {S : Addr → Prop} {H : Hp} {xs : List D} {vs : List V} {lo hi : Option Int} (r : Reps K S H xs vs) : Reps K S H (cutD xs lo hi) (cutV vs lo hi) := by
  unfold cutD cutV
  rw [r.len]
  exact Reps.take _ (Reps.drop _ r)
theorem cutD_len {α : Type} (xs : List α) (lo hi : Option Int) : (cutD xs lo hi).length ≤ xs.length := by
  unfold cutD
  rw [List.length_take, List.length_drop]
  omega
theorem cutD_all {α : Type} {xs : List α} {lo hi : Option Int} (h : HT.sIx xs.length 0 lo = 0 ∧ HT.sIx xs.length xs.length hi = xs.length) : cutD xs lo hi = xs := by
  unfold cutD
  rw [h.1, h.2]
  exact List.take_length
theorem e_sl {e : Expr} {lo hi : Option Expr} {p2 pos : Pos} {g : Env → W D} {gl gh : Env → W (Option Int)} (h : E G X Wx e g) (hl : PP G X Wx lo gl) (hh : PP G X Wx hi gh) :
    E G X Wx (.Subscript e (.Slice lo hi none p2) pos) (fun ρ => bnd (g ρ) fun x => bnd (gl ρ) fun i => bnd (gh ρ) fun j => slD x i j) := by
  obtain ⟨tl, hl1, hl2⟩ := hl
  obtain ⟨th, hh1, hh2⟩ := hh
  refine weakE (pe_slice (sl_tupZ.or (sl_str.or sl_list)) h hl1 hh1) fun σ H Q ⟨c, ρ, n, P, PX, I, q, hg, hx⟩ => tE.bnd I q hx fun d k u S' H' p g I' hx' r =>
    hl2 _ ρ k (fun i k => bnd (gh ρ) (fun j => slD d i j) k P PX) PX σ H' _ I' p hx' fun i k2 S2 H2 p2 g2 I2 => hh2 _ ρ k2 (fun j k => slD d i j k P PX) PX σ H2 _ I2 p2 (hx'.grow g2) fun j k3 S3 H3 p3 g3 I3 => ?_
  have r3 := Rep.grow (g2.trans g3) _ _ r
  have hg3 := hg.grow (g.trans (g2.trans g3))
  cases d with
  | tup xs =>
    obtain ⟨a, vs, rfl, r1, z, q1⟩ := id r3
    refine .inl ⟨a, vs, rfl, r1.sq, fun hw => ?_, fun _ b o hb hd => hg3.new p3 I3 hb fun g4 => ⟨b, _, rfl, .inl ⟨.inr rfl, o, upd_same, hd⟩, Nat.le_trans (cutD_len _ _ _) z, Reps.grow g4 _ _ q1.cut⟩⟩
    rw [q1.len] at hw
    have p3' : P (.tup (cutD xs i j)) k3 := p3
    rw [cutD_all hw] at p3'
    exact hg3.at p3' I3 r3
  | str z =>
    obtain ⟨rfl, hz⟩ := r3
    exact .inr (.inl ⟨z, rfl, hz, hg3.at (d := .str (cutS z i j)) p3 I3 ⟨rfl, Nat.le_trans (cutS_length z i j) hz⟩⟩)
  | lst xs =>
    obtain ⟨a, vs, rfl, r1, z, q1⟩ := r3
    exact .inr (.inr ⟨a, vs, rfl, r1.sq, fun b hb => hg3.new p3 I3 hb fun g4 => ⟨b, _, rfl, ⟨.inr rfl, upd_same⟩, Nat.le_trans (cutD_len _ _ _) z, Reps.grow g4 _ _ q1.cut⟩⟩)
  | _ => exact p3.elim
/-! ### calls of built-ins -/
theorem e_callB {x : Str} {p pos : Pos} {id : String} {e : Expr} {es : List Expr} {r : List V → Hp → VK → Prop} {gs : Env → W (List D)} {h : List D → W D} (hm : X.mg x = none) (hv : bootBuiltins x = some (.builtin id)) (o : CallR X (.builtin id) r) (v : VA G X Wx h r) (ha : A G X Wx (e :: es) gs)
    (hg : Gl X x := by rfl) (hn : x ≠ "__name__" := by decide) (hdb : (x == ("__debug__" : Str)) = false := by decide) (he : starEach (e :: es) X.env = (false, eval e X.env) :: starEach es X.env := by rfl) (hpl : (backTo pos (starEach es X.env)).any (·.1) = false := by rfl) :
    E G X Wx (.Call (.Name x p) (e :: es) [] pos) (fun ρ => bnd (gs ρ) h) :=
  weakE (pe_callB o hg hm hv ha hn hdb he hpl) fun σ H Q ⟨c, ρ, n, P, PX, I, q, hg, hx⟩ => tAr.bnd I q hx fun ds k us S' H' p g I' hx' r => v _ σ ρ H' k P PX ds us Q I' r p (hg.grow g) hx'
theorem e_callT {x : Str} {p pos : Pos} {T : String} {e : Expr} {es : List Expr} {r : List V → Hp → VK → Prop} {gs : Env → W (List D)} {h : List D → W D} (hm : X.mg x = none) (hv : bootBuiltins x = some (.type T)) (o : CallR X (.type T) r) (v : VA G X Wx h r) (ha : A G X Wx (e :: es) gs)
    (hg : Gl X x := by rfl) (hn : x ≠ "__name__" := by decide) (hdb : (x == ("__debug__" : Str)) = false := by decide) (he : starEach (e :: es) X.env = (false, eval e X.env) :: starEach es X.env := by rfl) (hpl : (backTo pos (starEach es X.env)).any (·.1) = false := by rfl) :
    E G X Wx (.Call (.Name x p) (e :: es) [] pos) (fun ρ => bnd (gs ρ) h) :=
  weakE (pe_callTy o hg hm hv ha hn hdb he hpl) fun σ H Q ⟨c, ρ, n, P, PX, I, q, hg, hx⟩ => tAr.bnd I q hx fun ds k us S' H' p g I' hx' r => v _ σ ρ H' k P PX ds us Q I' r p (hg.grow g) hx'
theorem Reps.one_inv {K : PySem.W.Frag} {S : Addr → Prop} {H : Hp} {x : D} {vs : List V} (r : Reps K S H [x] vs) : ∃ v, vs = [v] ∧ Rep K S H x v := by
  obtain ⟨v, ws, rfl, r, e⟩ := r
  have e : ws = [] := e
  rw [e]
  exact ⟨v, rfl, r⟩
theorem Reps.two_inv {K : PySem.W.Frag} {S : Addr → Prop} {H : Hp} {x y : D} {vs : List V} (r : Reps K S H [x, y] vs) : ∃ v w, vs = [v, w] ∧ Rep K S H x v ∧ Rep K S H y w := by
  obtain ⟨v, ws, rfl, r, q⟩ := r
  obtain ⟨w, rfl, r2⟩ := Reps.one_inv q
  exact ⟨v, w, rfl, r, r2⟩
theorem va_one {f : D → W D} {r : V → Hp → VK → Prop} {r' : List V → Hp → VK → Prop} (v : V1 G X Wx f r) (h : ∀ x H Q, r x H Q → r' [x] H Q) : VA G X Wx (one f) r' := by
  intro c σ ρ H n P PX ds vs Q I rs q hg hx
  cases ds with
  | nil => exact q.elim
  | cons d ds =>
    cases ds with
    | nil =>
      obtain ⟨u, rfl, r⟩ := rs.one_inv
      exact h u H Q (v c σ ρ H n P PX d u Q I r q hg hx)
    | cons _ _ => exact q.elim
theorem RepK.len {K : PySem.W.Frag} {S : Addr → Prop} {H : Hp} : ∀ {xs : List (Key × D)} {vs : List (Key × V)}, RepK K S H xs vs → vs.length = xs.length
  | [], _, h => by
    have e : _ = [] := h
    rw [e]
    rfl
  | (k, x) :: xs, _, h => by
    obtain ⟨v, ws, rfl, _, q⟩ := h
    show ws.length + 1 = xs.length + 1
    rw [RepK.len q]
theorem call_lenR : CallR X (.builtin "len") (fun xs H Q => ∃ a kvs, xs = [V.ref a] ∧ Rd H a (.dK kvs) ∧ Q (.int kvs.length) H) := by
  intro pins s σ H xs us Q I r q
  obtain ⟨a, kvs, ex, e, q⟩ := q
  subst ex
  obtain ⟨u, eu, rx⟩ := vals1 r
  subst eu
  cases rx
  exact d_len I e fun t s' I' => ⟨.int kvs.length, H, I', ⟨t, rfl⟩, q⟩
theorem e_len {p pos : Pos} {e : Expr} {g : Env → W D} (hm : X.mg "len" = none) (h : E G X Wx e g) (hg : Gl X "len" := by rfl) (he : starEach [e] X.env = (false, eval e X.env) :: starEach [] X.env := by rfl) :
    E G X Wx (.Call (.Name "len" p) [e] [] pos) (fun ρ => bnd (bnd (g ρ) fun x => bnd (ret []) fun xs => ret (x :: xs)) (one lenD)) :=
  e_callB hm PySem.boot_len (call_len.or call_lenR) (va_one (r := fun x H Q => (∃ n : Nat, LenV X.K x H n ∧ Q (.int n) H) ∨ ∃ d kvs, x = .ref d ∧ Rd H d (.dK kvs) ∧ Q (.int kvs.length) H) (by
    intro c σ ρ H n P PX d v Q I r q hg hx
    cases d with
    | lst xs => obtain ⟨a, vs, rfl, r1, _, q1⟩ := r; exact .inl ⟨xs.length, .inl ⟨vs, r1.sq, q1.len.symm⟩, hg.at (d := .int xs.length) q I rfl⟩
    | tup xs => obtain ⟨a, vs, rfl, r1, _, q1⟩ := r; exact .inl ⟨xs.length, .inr ⟨vs, r1.sq, q1.len.symm⟩, hg.at (d := .int xs.length) q I rfl⟩
    | str x => obtain ⟨rfl, z⟩ := r; exact .inl ⟨x.length, ⟨z, rfl⟩, hg.at (d := .int x.length) q I rfl⟩
    | dic kvs => obtain ⟨a, kws, rfl, r1, q1⟩ := r; exact .inr ⟨a, kws, rfl, r1.2, by rw [q1.len]; exact hg.at (d := .int kvs.length) q I rfl⟩
    | _ => exact q.elim) fun x H Q h => h.elim (fun ⟨n, h1, h2⟩ => .inl ⟨x, n, rfl, h1, h2⟩) fun ⟨d, kvs, h1, h2, h3⟩ => .inr ⟨d, kvs, by rw [h1], h2, h3⟩) (a_cons h a_nil he) hg (by decide) (by decide) he (by rfl)
end
end PL

/-! The layer: statements, targets, walks, loops, comprehensions. -/
namespace PL
open PySem PySem.Spec L2

/-! ### targets -/
inductive Tg where
  | nm (i : Nat) | tp (ts : List Tg)
mutual
def setT : Tg → D → Env → W Env
  | .nm i, x, ρ => ret (ρ.set i (.d x))
  | .tp ts, .tup xs, ρ => grd (xs.length = ts.length) (setTs ts xs ρ)
  | .tp ts, .lst xs, ρ => grd (xs.length = ts.length) (setTs ts xs ρ)
  | .tp _, _, _ => stuck
def setTs : List Tg → List D → Env → W Env
  | [], [], ρ => ret ρ
  | t :: ts, x :: xs, ρ => bnd (setT t x ρ) fun ρ' => setTs ts xs ρ'
  | _, _, _ => stuck
end
mutual
def Tg.ix : Tg → List Nat
  | .nm i => [i]
  | .tp ts => Tg.ixs ts
def Tg.ixs : List Tg → List Nat
  | [] => []
  | t :: ts => t.ix ++ Tg.ixs ts
end
/-- only the slots vs may differ -/
def But (vs : List Nat) (σ σ' : L2.St) : Prop := σ'.length = σ.length ∧ ∀ i, i ∉ vs → σ'[i]? = σ[i]?
def ButE (vs : List Nat) (ρ ρ' : Env) : Prop := ρ'.length = ρ.length ∧ ∀ i, i ∉ vs → ρ'[i]? = ρ[i]?

section
variable {G : PenK} {X : Cx} {Wx : WX}

mutual
def gT (K : PySem.W.Frag) : Tg → TG
  | .nm i => gName i
  | .tp ts => fun v σ H Q => gTup K ts.length (gTs K ts) v σ H Q ∨ gUnl K ts.length (gTs K ts) v σ H Q
def gTs (K : PySem.W.Frag) : List Tg → TGs
  | [] => gNil
  | t :: ts => gCons (gT K t) (gTs K ts)
end
def PTg (X : Cx) (tg : Expr) (t : Tg) : Prop := PG X tg (gT X.K t)
def PTgs (X : Cx) (tgs : List Expr) (ts : List Tg) : Prop := PGs X tgs (gTs X.K ts)
theorem But.set {σ : L2.St} {i : Nat} {o : Option V} : But [i] σ (σ.set i o) := ⟨by rw [List.length_set], fun j h => by rw [List.getElem?_set_ne (fun e => h (by rw [e]; exact List.mem_singleton.mpr rfl))]⟩
theorem ButE.set {ρ : Env} {i : Nat} {o : SV} : ButE [i] ρ (ρ.set i o) := ⟨by rw [List.length_set], fun j h => by rw [List.getElem?_set_ne (fun e => h (by rw [e]; exact List.mem_singleton.mpr rfl))]⟩
theorem But.app {σ σ1 σ2 : L2.St} {vs ws : List Nat} (a : But vs σ σ1) (b : But ws σ1 σ2) : But (vs ++ ws) σ σ2 :=
  ⟨b.1.trans a.1, fun i h => (b.2 i fun z => h (List.mem_append_right _ z)).trans (a.2 i fun z => h (List.mem_append_left _ z))⟩
theorem ButE.app {σ σ1 σ2 : Env} {vs ws : List Nat} (a : ButE vs σ σ1) (b : ButE ws σ1 σ2) : ButE (vs ++ ws) σ σ2 :=
  ⟨b.1.trans a.1, fun i h => (b.2 i fun z => h (List.mem_append_right _ z)).trans (a.2 i fun z => h (List.mem_append_left _ z))⟩
mutual
theorem gT_ok {K : PySem.W.Frag} : ∀ (t : Tg) {c : C} {σ : L2.St} {ρ : Env} {H : Hp} {n : Nt} {P : Env → Nt → Prop} {PX : Exc → Nt → Prop} {d : D} {v : V} {Q : L2.St → Hp → Prop}, SI G K c σ H ρ n → Rep K c.S H d v → setT t d ρ n P PX →
    (∀ ρ' k σ', P ρ' k → SI G K c σ' H ρ' k → But t.ix σ σ' → ButE t.ix ρ ρ' → Q σ' H) → gT K t v σ H Q
  | .nm i, c, σ, ρ, H, n, P, PX, d, v, Q, I, r, q, h => h _ n _ q (I.set r) But.set ButE.set
  | .tp ts, c, σ, ρ, H, n, P, PX, d, v, Q, I, r, q, h => by
    cases d with
    | tup xs =>
      obtain ⟨a, vs, rfl, r1, z, r2⟩ := r
      exact .inl ⟨a, vs, rfl, r1.sq, r2.len.trans q.1, gTs_ok ts I r2 q.2 h⟩
    | lst xs =>
      obtain ⟨a, vs, rfl, r1, z, r2⟩ := r
      exact .inr ⟨a, vs, rfl, r1.sq, r2.len.trans q.1, gTs_ok ts I r2 q.2 h⟩
    | _ => exact q.elim
theorem gTs_ok {K : PySem.W.Frag} : ∀ (ts : List Tg) {c : C} {σ : L2.St} {ρ : Env} {H : Hp} {n : Nt} {P : Env → Nt → Prop} {PX : Exc → Nt → Prop} {ds : List D} {vs : List V} {Q : L2.St → Hp → Prop}, SI G K c σ H ρ n → Reps K c.S H ds vs → setTs ts ds ρ n P PX →
    (∀ ρ' k σ', P ρ' k → SI G K c σ' H ρ' k → But (Tg.ixs ts) σ σ' → ButE (Tg.ixs ts) ρ ρ' → Q σ' H) → gTs K ts vs σ H Q
  | [], c, σ, ρ, H, n, P, PX, ds, vs, Q, I, r, q, h => by
    cases ds with
    | nil =>
      have e : vs = [] := r
      exact ⟨e, h ρ n σ q I ⟨rfl, fun _ _ => rfl⟩ ⟨rfl, fun _ _ => rfl⟩⟩
    | cons _ _ => exact q.elim
  | t :: ts, c, σ, ρ, H, n, P, PX, ds, vs, Q, I, r, q, h => by
    cases ds with
    | nil => exact q.elim
    | cons d ds =>
      obtain ⟨v, ws, rfl, r1, r2⟩ := r
      exact ⟨v, ws, rfl, gT_ok t I r1 q fun ρ1 k1 σ1 q1 I1 b1 e1 => gTs_ok ts I1 r2 q1 fun ρ2 k2 σ2 q2 I2 b2 e2 => h ρ2 k2 σ2 q2 I2 (b1.app b2) (e1.app e2)⟩
end
theorem g_nm {x : Str} {pos : Pos} (i : Nat) (hN : X.N.Nodup) (hi : X.N[i]? = some x := by rfl) (hx : Loc X.env.scope x := by first | exact Or.inl rfl | exact Or.inr rfl) (hf : X.fn x = true ∨ X.env.scope.names.lookup x = some .local := by first | exact .inl rfl | exact .inr rfl) : PTg X (.Name x pos) (.nm i) := pg_name hN hi hx hf
theorem gs_nil : PTgs X [] [] := pgs_nil
theorem gs_cons {tg : Expr} {tgs : List Expr} {t : Tg} {ts : List Tg} (h1 : PTg X tg t) (h2 : PTgs X tgs ts)
    (ht : (assignEach (tg :: tgs) X.env).map (·.2) = assign tg X.env :: (assignEach tgs X.env).map (·.2) := by rfl) : PTgs X (tg :: tgs) (t :: ts) := pgs_cons h1 h2 ht
theorem g_tp {es : List Expr} {k : Nat} {pos : Pos} {ts : List Tg} (hc : X.calm = true) (h : PTgs X es ts) (hn : (assignEach es X.env).length = ts.length := by rfl) (hst : (assignEach es X.env).findIdx? (·.1) = none := by rfl) :
    PTg X (.Tuple es k pos) (.tp ts) :=
  ⟨fun pins sh σ H v u Q I r q => q.elim ((pg_tup hc h hn hst).run pins sh σ H v u Q I r) ((pg_unl hc h hn hst).run pins sh σ H v u Q I r)⟩

/-! ### statements -/
theorem SI.bk {c : C} {σ : L2.St} {ρ : Env} {H : Hp} {n : Nt} (I : SI G X.K c σ H ρ n) : SI G X.K (c.to c.S) σ H ρ n := I
def andThen (m : W Out) (k : Env → W Out) : W Out := bnd m fun o => match o with
  | .nx ρ => k ρ
  | .rt d ρ => ret (.rt d ρ)
  | .bk ρ => ret (.bk ρ)
  | .ct ρ => ret (.ct ρ)
theorem GlS.seq {c : C} {H : Hp} {P : Out → Nt → Prop} {PX : Exc → Nt → Prop} {Dn : Ends} {f : Env → W Out} {N : L2.St → Hp → Prop} (hg : GlS G X c H P Dn)
    (hN : ∀ ρ' k σ' S' H', f ρ' k P PX → Grow c.S S' H H' → SI G X.K (c.to S') σ' H' ρ' k → N σ' H') :
    GlS G X c H (fun o k => (match o with | .nx ρ => f ρ | .rt d ρ => ret (.rt d ρ) | .bk ρ => ret (.bk ρ) | .ct ρ => ret (.ct ρ) : W Out) k P PX) { Dn with nx := N } :=
  ⟨fun ρ' k σ' S' H' p g I => hN ρ' k σ' S' H' p g I, fun d k v σ' ρ' S' H' p g I r => hg.2.1 d k v σ' ρ' S' H' p g I r, fun ρ' k σ' S' H' p g I => hg.2.2.1 ρ' k σ' S' H' p g I, fun ρ' k σ' S' H' p g I => hg.2.2.2 ρ' k σ' S' H' p g I⟩
/-- slot i is given up -/
def frz (i : Nat) (ρ : Env) : Env := match ρ[i]? with
  | some s => ρ.set i s.bor
  | none => ρ
theorem s_asg {tg e : Expr} {pos : Pos} {t : Tg} {g : Env → W D} (h : E G X Wx e g) (ht : PTg X tg t) (h1 : (assignEach [tg] X.env).map (·.2) = [assign tg X.env] := by rfl) (hs : swapsWithSole [tg] e pos.line X.env = pure false := by rfl) (hw : swappedStores [tg] e X.env = pure none := by rfl) :
    St1 G X Wx (.Assign [tg] e pos) (fun ρ => bnd (g ρ) fun d => bnd (setT t d ρ) fun ρ' => ret (.nx ρ')) := by
  exact weakS (ps_asg h ht hs hw h1) fun Dn σ H ⟨c, ρ, n, P, PX, I, q, hg, hx⟩ => tE.bnd I q hx.x fun d k v S' H' p g I' hx' r => gT_ok t (P := fun ρ' k => P (.nx ρ') k) I' r p fun ρ' k2 σ' p2 I2 _ _ => hg.1 ρ' k2 σ' S' H' p2 g I2
/-- name = a new list of one's own -/
theorem s_own {x : Str} {px pos : Pos} {e : Expr} {g : Env → W (List D)} (i : Nat) (h : EO G X Wx e g) (hN : X.N.Nodup) (hi : X.N[i]? = some x := by rfl) (hx : Loc X.env.scope x := by first | exact Or.inl rfl | exact Or.inr rfl) (hf : X.fn x = true ∨ X.env.scope.names.lookup x = some .local := by first | exact .inl rfl | exact .inr rfl)
    (hs : swapsWithSole [.Name x px] e pos.line X.env = pure false := by rfl) (hw : swappedStores [.Name x px] e X.env = pure none := by rfl) : St1 G X Wx (.Assign [.Name x px] e pos) (fun ρ => bnd (g ρ) fun xs => ret (.nx (ρ.set i (.own xs)))) :=
  weakS (ps_asg h (pg_name hN hi hx hf) hs hw) fun Dn σ H ⟨c, ρ, n, P, PX, I, q, hg, hx⟩ => tO.bnd I q hx.x fun xs k a vs S' H' p g I' hx' e z r f => hg.1 _ k _ S' H' p g (I'.setO e z r f.1 fun j sv _ h1 h2 => f.2 j sv h1 h2)
/-- a list of one's own is changed -/
theorem SI.mut {c : C} {σ : L2.St} {ρ : Env} {H : Hp} {n : Nt} {i : Nat} {xs ys : List D} {a : Addr} {vs : List V} (I : SI G X.K c σ H ρ n) (e : ρ[i]? = some (.own xs)) (es : slot σ i = some (.ref a)) (z : ys.length ≤ sizeLine) (r : Reps X.K c.S H ys vs) :
    SI G X.K c σ (upd H a (.lst vs)) (ρ.set i (.own ys)) n ∧ Grow c.S c.S H (upd H a (.lst vs)) := by
  obtain ⟨y1, y2, y3⟩ := I.own i _ a e rfl es
  have hl : i < ρ.length := (List.getElem?_eq_some_iff.mp e).1
  have g : Grow c.S c.S H (upd H a (.lst vs)) := ⟨fun _ q => q, fun b q => upd_ne fun z => y1 (z ▸ q)⟩
  have key : ∀ j sv, (ρ.set i (.own ys))[j]? = some sv → (j = i ∧ sv = .own ys) ∨ (i ≠ j ∧ ρ[j]? = some sv) := fun j sv e => by
    by_cases h : i = j
    · subst h
      rw [List.getElem?_set_self hl] at e
      exact .inl ⟨rfl, (Option.some.inj e).symm⟩
    · rw [List.getElem?_set_ne h] at e
      exact .inr ⟨h, e⟩
  refine ⟨⟨by rw [List.length_set, I.len], fun j sv e2 => ?_, fun j sv b e2 ho es2 => ?_, fun j k sv sv' b hn e1 e2 ho ho' es1 es2 => ?_, fun b q => ?_, fun b o e2 hn => ?_, fun p e2 => ?_, I.no, fun q e => ⟨(I.tab q e).1, (I.tab q e).2.grow g (upd_ne fun z => (I.tabN e).2.1 (z ▸ y2))⟩, fun b nd e => ⟨(I.mu b nd e).1.grow g (upd_ne fun z => (by rw [z, y3] at e; cases e)), (I.mu b nd e).2⟩, I.mu0, I.mz⟩, g⟩
  · rcases key j sv e2 with ⟨rfl, rfl⟩ | ⟨hn, h⟩
    · exact ⟨a, vs, es, upd_same, z, Reps.grow g _ _ r⟩
    · exact (I.slots j sv h).grow g fun b eb ho => upd_ne fun q => I.apart i j _ sv a hn e h rfl ho es (q ▸ eb)
  · rcases key j sv e2 with ⟨rfl, rfl⟩ | ⟨hn, h⟩
    · exact I.own j _ b e rfl es2
    · exact I.own j sv b h ho es2
  · rcases key j sv e1 with ⟨rfl, rfl⟩ | ⟨hn1, h1⟩
    · rcases key k sv' e2 with ⟨rfl, rfl⟩ | ⟨hn2, h2⟩
      · exact hn rfl
      · exact I.apart j k _ sv' b hn e h2 rfl ho' es1 es2
    · rcases key k sv' e2 with ⟨rfl, rfl⟩ | ⟨hn2, h2⟩
      · exact I.apart j k sv _ b hn h1 e ho rfl es1 es2
      · exact I.apart j k sv sv' b hn h1 h2 ho ho' es1 es2
  · rw [g.eq b q]; exact I.dom b q
  · have q := I.fr b o e2 hn
    rw [upd_ne fun z => by rw [z, y2] at e2; cases e2]
    exact q
  · obtain ⟨h1, h2, h3, h4, h5⟩ := I.pen p e2
    exact ⟨G.dep h1 (upd_ne fun z => h4 (z ▸ y2)) (upd_ne fun z => h5 (z ▸ y2)), h2, h3, h4, h5⟩
def ownAt (ρ : Env) (i : Nat) (f : List D → W Out) : W Out := match ρ[i]? with
  | some (.own xs) => f xs
  | _ => stuck
theorem ownAt_inv {ρ : Env} {i : Nat} {n : Nt} {f : List D → W Out} {P : Out → Nt → Prop} {PX : Exc → Nt → Prop} (h : ownAt ρ i f n P PX) : ∃ xs, ρ[i]? = some (.own xs) ∧ f xs n P PX := by
  unfold ownAt at h
  cases e : ρ[i]? with
  | none => rw [e] at h; exact h.elim
  | some sv =>
    rw [e] at h
    cases sv with
    | own xs => exact ⟨xs, rfl, h⟩
    | _ => exact h.elim
/-- xs.append(e) -/
theorem s_app {x : Str} {px pa pc pos : Pos} {e : Expr} {g : Env → W D} (i : Nat) (h : E G X Wx e g) (hN : X.N[i]? = some x := by rfl) (hv : Vis X.env.scope x := by first | exact Or.inl rfl | exact Or.inr (Or.inl rfl) | exact Or.inr (Or.inr rfl)) (hd : (x == ("__debug__" : Str)) = false := by decide)
    (hcd : (x == ("__classdict__" : Str)) = false := by decide) (hst : starEach [e] X.env = (false, eval e X.env) :: starEach [] X.env := by rfl)
    (hbase : attributeBase (.Name x px) "append" X.env (eval (.Name x px) X.env) = eval (.Name x px) X.env := by rfl)
    (hfew : ((backTo pc (starEach [e] X.env)).all (fun x => !x.1) && (backToKw pc (keywordEach [] X.env)).all (fun x => x.1.isSome)
      && decide (([e] : List Expr).length + ([] : List Keyword).length + (if ([] : List Keyword).isEmpty then 0 else 1) < 30)) = true := by rfl)
    (hline : (pa.endLine == pc.line) = true := by rfl) (hplain : (backTo pc (starEach [] X.env)).any (·.1) = false := by rfl) (hs : swapsWith (.Call (.Attribute (.Name x px) "append" pa) [e] [] pc) none pos.line X.env = pure false := by rfl) :
    St1 G X Wx (.Expr (.Call (.Attribute (.Name x px) "append" pa) [e] [] pc) pos) (fun ρ => ownAt ρ i fun xs => bnd (g ρ) fun d => grd (xs.length < sizeLine) (ret (.nx (ρ.set i (.own (xs ++ [d])))))) :=
  weakS (ps_expr (pe_bm PySem.F.plainAttrs_list PySem.F.slot_list_append PySem.F.type_list_append mt_append (pe_var hN hv hd hcd) (pa_cons h pa_nil hst) hbase hfew hline hst hplain) hs) fun Dn σ H ⟨c, ρ, n, P, PX, I, q, hg, hx⟩ => by
    obtain ⟨xs, e1, q⟩ := ownAt_inv q
    obtain ⟨a, vs, e2, e3, z, r⟩ := I.slots i _ e1
    refine ⟨.ref a, slot_some e2, .inl ⟨rfl, _, SqL.of e3⟩, tE.bnd I q hx.x fun d k v S' H' ⟨z2, p⟩ g I' hx' r' => ?_⟩
    obtain ⟨a', vs', e4, e5, z3, r2⟩ := I'.slots i _ e1
    rw [e2] at e4
    cases e4
    obtain ⟨I3, g3⟩ := I'.mut e1 e2 (ys := xs ++ [d]) (vs := vs' ++ [v]) (by rw [List.length_append]; exact z2) (Reps.app r2 (Reps.one r'))
    exact ⟨a, vs', v, rfl, rfl, e5, by rw [r2.len]; exact z2, hg.1 _ k σ _ _ p (g.trans g3) I3⟩
end
end PL

/-! The layer: walks, loops, comprehensions. -/
namespace PL
open PySem PySem.Spec L2
section
variable {G : PenK} {X : Cx} {Wx : WX}

/-- from S0, H0 on the walk J gives the items xs -/
def Walks (G : PenK) (K : PySem.W.Frag) (J : It) (S0 : Addr → Prop) (H0 : Hp) (xs : List D) : Prop :=
  ∀ (c : C) (ρ : Env) (σ : L2.St) (H : Hp) (n : Nt) (i : Nat), Grow S0 c.S H0 H → SI G K c σ H ρ n →
    (i < xs.length → J.go i H ∧ ∀ v H', J.yld i H v H' → ∃ S' x, Grow c.S S' H H' ∧ SI G K (c.to S') σ H' ρ n ∧ xs[i]? = some x ∧ Rep K S' H' x v) ∧ (xs.length ≤ i → J.stop i H)
def tI (G : PenK) (X : Cx) (Wx : WX) (g : Env → W (List D)) : TI := fun σ H R => ∃ c ρ n P PX, SI G X.K c σ H ρ n ∧ g ρ n P PX ∧
  (∀ xs k S' H' J, P xs k → Grow c.S S' H H' → SI G X.K (c.to S') σ H' ρ k → Walks G X.K J S' H' xs → R J H') ∧ OKx G X Wx c σ ρ H PX
def Wk (G : PenK) (X : Cx) (Wx : WX) (tg e : Expr) (g : Env → W (List D)) : Prop := PI X tg e (tI G X Wx g)
theorem weakI {tg e : Expr} {t t' : TI} (h : PI X tg e t) (f : ∀ σ H R, t' σ H R → t σ H R) : PI X tg e t' := ⟨fun pins s σ H R I q => h.run pins s σ H R I (f σ H R q)⟩

theorem walks_list {K : PySem.W.Frag} {S : Addr → Prop} {H : Hp} {a : Addr} {xs : List D} {vs : List V} (h : RdL S H a vs) (r : Reps K S H xs vs) : Walks G K (Itl K a) S H xs := fun c ρ σ H2 n i g I => by
  have h2 := h.grow g
  have r2 := Reps.grow g _ _ r
  refine ⟨fun hi => ?_, fun hi => ⟨vs, h2.sq, by rw [r2.len]; exact hi⟩⟩
  have hx : xs[i]? = some xs[i] := List.getElem?_eq_getElem hi
  obtain ⟨v, e1, e2⟩ := Reps.at r2 hx
  exact ⟨⟨vs, v, h2.sq, e1⟩, fun u H' ⟨e, y⟩ => ⟨c.S, xs[i], e ▸ .refl, e ▸ I, hx, by
    have := y vs h2.sq
    rw [e1] at this
    cases this
    rw [e]
    exact e2⟩⟩
theorem walks_tup {K : PySem.W.Frag} {S : Addr → Prop} {H : Hp} {a : Addr} {xs : List D} {vs : List V} (h : RdT K S H a vs) (r : Reps K S H xs vs) : Walks G K (Itt K a) S H xs := fun c ρ σ H2 n i g I => by
  have h2 := h.grow g
  have r2 := Reps.grow g _ _ r
  refine ⟨fun hi => ?_, fun hi => ⟨vs, h2.sq, by rw [r2.len]; exact hi⟩⟩
  have hx : xs[i]? = some xs[i] := List.getElem?_eq_getElem hi
  obtain ⟨v, e1, e2⟩ := Reps.at r2 hx
  exact ⟨⟨vs, v, h2.sq, e1⟩, fun u H' ⟨e, y⟩ => ⟨c.S, xs[i], e ▸ .refl, e ▸ I, hx, by
    have := y vs h2.sq
    rw [e1] at this
    cases this
    rw [e]
    exact e2⟩⟩
/-- a list or a tuple -/
theorem pi_seq {tg e : Expr} {te : TE} (he : PE X e te) : PI X tg e (fun σ H R => te σ H fun x H1 => ∃ a xs, x = .ref a ∧ ((SqL X.K H1 a xs ∧ R (Itl X.K a) H1) ∨ (SqT X.K H1 a xs ∧ R (Itt X.K a) H1))) :=
  ⟨fun pins s σ H R I h => thn (he.run pins s σ H _ I h) fun v s1 ⟨x, H1, I1, r1, a, xs, e, q⟩ => by
    subst e
    cases r1
    have fp : ∀ b ∈ [s1.heap.objs.size], FpOk X pins H1 b := fun b hb => by
      rw [List.mem_singleton.mp hb]
      exact I1.fpOk (Nat.le_refl _) (I1.hok.fresh (Nat.le_refl _))
    rcases q with ⟨h1, q⟩ | ⟨h1, q⟩
    · obtain ⟨its, _, p, _⟩ := I1.list h1
      exact PySem.wpAny_pyIter_list p.isList ⟨_, _, _, _, H1, rfl, I1.kept (t' := s1.toks) (fun b o e => Heap.get?_push_of_some _ e), turn_list a _, ⟨_, Heap.get?_push_size _ rfl, rfl, rfl⟩, fp, q⟩
    · obtain ⟨its, _, p, _⟩ := I1.tuple h1
      exact PySem.wpAny_pyIter_tuple (show s1.heap.IsTuple a its.toArray from p) ⟨_, _, _, _, H1, rfl, I1.kept (t' := s1.toks) (fun b o e => Heap.get?_push_of_some _ e), turn_tuple a _, ⟨_, Heap.get?_push_size _ rfl, rfl, rfl⟩, fp, q⟩⟩
theorem w_seq {tg e : Expr} {g : Env → W D} (h : E G X Wx e g) : Wk G X Wx tg e (fun ρ => bnd (g ρ) items) :=
  weakI (pi_seq h) fun σ H R ⟨c, ρ, n, P, PX, I, q, hg, hx⟩ => tE.bnd I q hx fun d k v S' H' p g I' hx' r => by
    cases d with
    | lst xs =>
      obtain ⟨a, vs, rfl, r1, z, q1⟩ := r
      exact ⟨a, vs, rfl, .inl ⟨r1.sq, hg xs k S' H' _ p g I' (walks_list r1 q1)⟩⟩
    | tup xs =>
      obtain ⟨a, vs, rfl, r1, z, q1⟩ := r
      exact ⟨a, vs, rfl, .inr ⟨r1.sq, hg xs k S' H' _ p g I' (walks_tup r1 q1)⟩⟩
    | _ => exact p.elim
/-- the ints lo, lo + 1, .. -/
def rng (lo : Int) (n : Nat) : List D := (List.range n).map fun i => .int (lo + (i : Nat))
def inR (i : Int) : Prop := -(2 ^ 62) ≤ i ∧ i < 2 ^ 62
def rng1 : D → W (List D)
  | .int j => grd (inR j) (ret (rng 0 j.toNat))
  | _ => stuck
def rng2 : D → D → W (List D)
  | .int i, .int j => grd (inR i ∧ inR j) (ret (rng i (j - i).toNat))
  | _, _ => stuck
theorem rng_len (lo : Int) (n : Nat) : (rng lo n).length = n := by unfold rng; rw [List.length_map, List.length_range]
theorem rng_get {lo : Int} {n i : Nat} (h : i < n) : (rng lo n)[i]? = some (.int (lo + (i : Nat))) := by
  unfold rng
  rw [List.getElem?_map, List.getElem?_range h]
  rfl
theorem walks_rng {K : PySem.W.Frag} {S : Addr → Prop} {H : Hp} {lo : Int} {n : Nat} : Walks G K (Itr lo n) S H (rng lo n) := fun c ρ σ H2 k i g I => by
  rw [rng_len]
  exact ⟨fun hi => ⟨hi, fun v H' ⟨e1, e2⟩ => ⟨c.S, _, e1 ▸ .refl, e1 ▸ I, rng_get hi, e2⟩⟩, fun hi => hi⟩
theorem w_rng1 {tg e : Expr} {p pos : Pos} {g : Env → W D} (hm : X.mg "range" = none) (h : E G X Wx e g) (hg : Gl X "range" := by rfl) (hs : starEach [e] X.env = [(false, eval e X.env)] := by rfl) : Wk G X Wx tg (.Call (.Name "range" p) [e] [] pos) (fun ρ => bnd (g ρ) rng1) :=
  weakI (pi_range1 hg hm (a_cons h a_nil hs) hs) fun σ H R ⟨c, ρ, n, P, PX, I, q, hg, hx⟩ => tAr.bnd (f := fun ds => match ds with | [d] => rng1 d | _ => stuck) I q hx fun ds k vs S' H' p g I' hx' r => by
    cases ds with
    | nil => exact p.elim
    | cons d ds =>
      cases ds with
      | cons _ _ => exact p.elim
      | nil =>
        obtain ⟨v, rfl, r1⟩ := r.one_inv
        cases d with
        | int j => obtain rfl : v = V.int j := r1; exact ⟨j, rfl, p.1.1, p.1.2, hg _ k S' H' _ p.2 g I' walks_rng⟩
        | _ => exact p.elim
theorem w_rng2 {tg a b : Expr} {p pos : Pos} {ga gb : Env → W D} (hm : X.mg "range" = none) (ha : E G X Wx a ga) (hb : E G X Wx b gb) (hg : Gl X "range" := by rfl) (hs : starEach [a, b] X.env = [(false, eval a X.env), (false, eval b X.env)] := by rfl) (hs2 : starEach [b] X.env = [(false, eval b X.env)] := by rfl) :
    Wk G X Wx tg (.Call (.Name "range" p) [a, b] [] pos) (fun ρ => bnd (ga ρ) fun x => bnd (gb ρ) fun y => rng2 x y) :=
  weakI (pi_range2 hg hm (a_cons ha (a_cons hb a_nil hs2) (by rw [hs, hs2])) hs hs2) fun σ H R ⟨c, ρ, n, P, PX, I, q, hg, hx⟩ => tAr.bnd (f := fun ds => match ds with | [x, y] => rng2 x y | _ => stuck) I q hx fun ds k vs S' H' p g I' hx' r => by
    cases ds with
    | nil => exact p.elim
    | cons d ds =>
      cases ds with
      | nil => exact p.elim
      | cons e ds =>
        cases ds with
        | cons _ _ => exact p.elim
        | nil =>
          obtain ⟨v, w, rfl, r1, r2⟩ := r.two_inv
          cases d with
          | int i =>
            cases e with
            | int j => cases r1; cases r2; exact ⟨i, j, rfl, ⟨p.1.1.1, p.1.1.2, p.1.2.1, p.1.2.2⟩, hg _ k S' H' _ p.2 g I' walks_rng⟩
            | _ => exact p.elim
          | _ => exact p.elim
/-- the signs of a text -/
def signs : D → W (List D)
  | .str x => ret (x.cps.toList.map fun k => .str ⟨#[k]⟩)
  | _ => stuck
theorem w_str {tg e : Expr} {g : Env → W D} (h : E G X Wx e g) : Wk G X Wx tg e (fun ρ => bnd (g ρ) signs) :=
  weakI (pi_str h) fun σ H R ⟨c, ρ, n, P, PX, I, q, hg, hx⟩ => tE.bnd I q hx fun d k v S' H' p g I' hx' r => by
    cases d with
    | str x =>
      obtain ⟨rfl, z⟩ := r
      refine ⟨x, rfl, hg _ k S' H' _ p g I' fun c2 ρ2 σ2 H2 n2 i g2 I2 => ?_⟩
      rw [List.length_map, Array.length_toList]
      refine ⟨fun hi => ⟨hi, fun v H3 ⟨e1, w, e2, e3⟩ => ⟨c2.S, .str ⟨#[w]⟩, e1 ▸ .refl, e1 ▸ I2, ?_, e3, by rw [sizeLine_eq]; show 1 ≤ 16777216; decide⟩⟩, fun hi => hi⟩
      rw [List.getElem?_map, Array.getElem?_toList, e2]
      rfl
    | _ => exact p.elim

/-! ### for -/
/-- slot i is given up ahead of a block -/
theorem SI.frz {K : PySem.W.Frag} {c : C} {σ : L2.St} {ρ : Env} {H : Hp} {n : Nt} (i : Nat) (I : SI G K c σ H ρ n) : ∃ S', SI G K (c.to S') σ H (PL.frz i ρ) n ∧ Grow c.S S' H H := by
  cases e : ρ[i]? with
  | none => exact ⟨c.S, by unfold PL.frz; rw [e]; exact I, .refl⟩
  | some sv =>
    have ef : PL.frz i ρ = ρ.set i sv.bor := by unfold PL.frz; rw [e]
    rw [ef]
    by_cases ho : sv.isOwn = true
    · obtain ⟨a, es⟩ : ∃ a, slot σ i = some (.ref a) := by
        have q := I.slots i sv e
        cases sv with
        | own xs => obtain ⟨a, _, h, _⟩ := q; exact ⟨a, h⟩
        | ownK xs => obtain ⟨a, _, h, _⟩ := q; exact ⟨a, h⟩
        | _ => cases ho
      have hl : i < ρ.length := (List.getElem?_eq_some_iff.mp e).1
      have g : Grow c.S (fun b => c.S b ∨ b = a) H H := ⟨fun _ q => .inl q, fun _ _ => rfl⟩
      have key : ∀ j s, (ρ.set i sv.bor)[j]? = some s → (j = i ∧ s = sv.bor) ∨ (i ≠ j ∧ ρ[j]? = some s) := fun j s e => by
        by_cases h : i = j
        · subst h
          rw [List.getElem?_set_self hl] at e
          exact .inl ⟨rfl, (Option.some.inj e).symm⟩
        · rw [List.getElem?_set_ne h] at e
          exact .inr ⟨h, e⟩
      obtain ⟨y1, y2, y3⟩ := I.own i sv a e ho es
      refine ⟨fun b => c.S b ∨ b = a, ⟨by rw [List.length_set, I.len], fun j s e2 => ?_, fun j s b e2 ho2 es2 => ?_, fun j k s s' b hn e1 e2 h1 h2 es1 es2 => ?_, fun b q => ?_, I.fr, fun p e2 => ?_, fun b q => ⟨fun z => z.elim (I.no b q).1 fun z => (I.no b q).2 (z ▸ y2), (I.no b q).2⟩, fun q e => ⟨(I.tab q e).1, (I.tab q e).2.grow g rfl⟩, fun b nd e => ⟨(I.mu b nd e).1.grow g rfl, fun z => Or.elim z (I.mu b nd e).2.1 fun z => (by rw [z, y3] at e; cases e), (I.mu b nd e).2.2⟩, I.mu0, I.mz⟩, g⟩
      · rcases key j s e2 with ⟨rfl, rfl⟩ | ⟨_, h⟩
        · have q := (I.slots j sv e).grow g fun _ _ _ => rfl
          cases sv with
          | own xs => obtain ⟨b, vs, e1, r, z, q⟩ := q; rw [es] at e1; cases e1; exact ⟨.ref a, es, a, vs, rfl, ⟨.inr rfl, r⟩, z, q⟩
          | ownK xs => obtain ⟨b, vs, e1, r, q⟩ := q; rw [es] at e1; cases e1; exact ⟨.ref a, es, a, vs, rfl, ⟨.inr rfl, .inl r⟩, q⟩
          | _ => cases ho
        · exact (I.slots j s h).grow g fun _ _ _ => rfl
      · rcases key j s e2 with ⟨rfl, rfl⟩ | ⟨hn, h⟩
        · rw [bor_own] at ho2; cases ho2
        · obtain ⟨z1, z2⟩ := I.own j s b h ho2 es2
          exact ⟨fun q => q.elim z1 fun q => I.apart i j sv s a hn e h ho ho2 es (q ▸ es2), z2⟩
      · rcases key j s e1 with ⟨rfl, rfl⟩ | ⟨_, h1'⟩
        · rw [bor_own] at h1; cases h1
        · rcases key k s' e2 with ⟨rfl, rfl⟩ | ⟨_, h2'⟩
          · rw [bor_own] at h2; cases h2
          · exact I.apart j k s s' b hn h1' h2' h1 h2 es1 es2
      · rcases q with q | rfl
        · exact I.dom b q
        · exact I.own_there ⟨i, sv, e, ho, es⟩
      · obtain ⟨h1, h2, h3, h4, h5⟩ := I.pen p e2
        exact ⟨h1, fun q => q.elim h2 fun q => h4 (q ▸ y2), fun q => q.elim h3 fun q => h5 (q ▸ y2), h4, h5⟩
    · have eb : sv.bor = sv := by cases sv <;> first | rfl | exact absurd rfl ho
      have e3 : ρ.set i sv = ρ := by
        apply List.ext_getElem?
        intro j
        by_cases h : i = j
        · subst h
          rw [List.getElem?_set_self (List.getElem?_eq_some_iff.mp e).1, e]
        · rw [List.getElem?_set_ne h]
      rw [eb, e3]
      exact ⟨c.S, I, .refl⟩
end
end PL

/-! The layer: comprehensions. -/
namespace PL
open PySem PySem.Spec L2

def wip : List Nat → Env → Env
  | [], ρ => ρ
  | v :: vs, ρ => (wip vs ρ).set v .un
def noOwn (vs : List Nat) (ρ : Env) : Bool := vs.all fun v => match ρ[v]? with
  | some s => !s.isOwn
  | none => true
def quiet {α : Type} (m : W α) : W α := fun n P _ => m n P fun _ _ => False
def compW (t : Tg) (gt : Env → W Bool) (ge : Env → W D) (ρ : Env) : List D → W (List D)
  | [] => ret []
  | x :: xs => bnd (setT t x ρ) fun ρ' => bnd (gt ρ') fun b => if b = true then bnd (ge ρ') fun y => bnd (compW t gt ge ρ xs) fun ys => ret (y :: ys) else compW t gt ge ρ xs
abbrev WF : WX := fun _ _ _ _ => False

theorem wip_get : ∀ (vs : List Nat) (ρ : Env) (i : Nat) (s : SV), (wip vs ρ)[i]? = some s → s = .un ∨ (i ∉ vs ∧ ρ[i]? = some s)
  | [], ρ, i, s, h => .inr ⟨by simp, h⟩
  | v :: vs, ρ, i, s, h => by
    unfold wip at h
    by_cases e : v = i
    · subst e
      by_cases hl : v < (wip vs ρ).length
      · rw [List.getElem?_set_self hl] at h
        exact .inl (Option.some.inj h).symm
      · rw [List.getElem?_eq_none (by rw [List.length_set]; omega)] at h
        cases h
    · rw [List.getElem?_set_ne e] at h
      rcases wip_get vs ρ i s h with q | ⟨q1, q2⟩
      · exact .inl q
      · exact .inr ⟨fun z => (List.mem_cons.mp z).elim (fun z => e z.symm) q1, q2⟩
theorem wip_out : ∀ (vs : List Nat) (ρ : Env) (i : Nat), i ∉ vs → (wip vs ρ)[i]? = ρ[i]?
  | [], _, _, _ => rfl
  | v :: vs, ρ, i, h => by
    unfold wip
    rw [List.getElem?_set_ne fun e => h (by rw [e]; exact List.mem_cons_self), wip_out vs ρ i fun z => h (List.mem_cons_of_mem _ z)]
theorem wip_len : ∀ (vs : List Nat) (ρ : Env), (wip vs ρ).length = ρ.length
  | [], _ => rfl
  | v :: vs, ρ => by unfold wip; rw [List.length_set, wip_len vs ρ]
theorem wipe_out : ∀ (vs : List Nat) (σ : L2.St) (i : Nat), i ∉ vs → (L2.wipe σ vs)[i]? = σ[i]?
  | [], _, _, _ => rfl
  | v :: vs, σ, i, h => by
    unfold L2.wipe
    rw [List.getElem?_set_ne fun e => h (by rw [e]; exact List.mem_cons_self), wipe_out vs σ i fun z => h (List.mem_cons_of_mem _ z)]
theorem wipe_in : ∀ (vs : List Nat) (σ : L2.St) (i : Nat), i ∈ vs → i < σ.length → (L2.wipe σ vs)[i]? = some none
  | [], _, _, h, _ => nomatch h
  | v :: vs, σ, i, h, hl => by
    unfold L2.wipe
    by_cases e : v = i
    · subst e
      rw [List.getElem?_set_self (by rw [L2.wipe_length]; exact hl)]
    · rw [List.getElem?_set_ne e]
      exact wipe_in vs σ i ((List.mem_cons.mp h).resolve_left fun z => e z.symm) hl
/-- the slots that the targets may change are wiped: the rest is the same -/
theorem wipe_but {vs ws : List Nat} {σ σ' : L2.St} (b : But ws (L2.wipe σ vs) σ') (h : ∀ i ∈ ws, i ∈ vs) : L2.wipe σ' vs = L2.wipe σ vs := by
  have hl : σ'.length = σ.length := b.1.trans (L2.wipe_length σ vs)
  apply List.ext_getElem?
  intro i
  by_cases hi : i ∈ vs
  · by_cases hz : i < σ.length
    · rw [wipe_in vs σ' i hi (by omega), wipe_in vs σ i hi hz]
    · rw [List.getElem?_eq_none (by rw [L2.wipe_length]; omega), List.getElem?_eq_none (by rw [L2.wipe_length]; omega)]
  · rw [wipe_out vs σ' i hi, b.2 i fun z => hi (h i z)]

section
variable {G : PenK} {K : PySem.W.Frag} {c : C} {σ : L2.St} {ρ : Env} {H : Hp} {n : Nt}
theorem SI.wipe (vs : List Nat) (I : SI G K c σ H ρ n) : SI G K c (L2.wipe σ vs) H (wip vs ρ) n := by
  have st : ∀ i, i ∉ vs → slot (L2.wipe σ vs) i = slot σ i := fun i h => by unfold slot; rw [wipe_out vs σ i h]
  refine ⟨by rw [wip_len, L2.wipe_length, I.len], fun i sv e => ?_, fun i sv a e ho es => ?_, fun i j sv sv' a hn e e' ho ho' es es' => ?_, I.dom, I.fr, I.pen, I.no, I.tab, I.mu, I.mu0, I.mz⟩
  · rcases wip_get vs ρ i sv e with rfl | ⟨h1, h2⟩
    · trivial
    · rw [st i h1]; exact I.slots i sv h2
  · rcases wip_get vs ρ i sv e with rfl | ⟨h1, h2⟩
    · cases ho
    · exact I.own i sv a h2 ho (st i h1 ▸ es)
  · rcases wip_get vs ρ i sv e with rfl | ⟨h1, h2⟩
    · cases ho
    · rcases wip_get vs ρ j sv' e' with rfl | ⟨h1', h2'⟩
      · cases ho'
      · exact I.apart i j sv sv' a hn h2 h2' ho ho' (st i h1 ▸ es) (st j h1' ▸ es')
/-- within a comprehension's block: the new list at D is kept, and is never among what stays -/
def C.blk (c : C) (D : Addr) (o : HO) : C := { c with H0 := fun a => if a = D then some o else c.H0 a, no := fun a => c.no a ∨ a = D }
theorem SI.blk {D : Addr} {o : HO} (I : SI G K c σ H ρ n) (hD : H D = some o) (h0 : c.H0 D = none) (hS : ¬ c.S D) (hM : n.μ D = none) (ho : ¬ ownS ρ σ D) : SI G K (c.blk D o) σ H ρ n := by
  have up : ∀ a, c.H0 a ≠ none → (c.blk D o).H0 a ≠ none := fun a h => by
    show (if a = D then some o else c.H0 a) ≠ none
    split
    · exact fun z => nomatch z
    · exact h
  refine ⟨I.len, I.slots, fun i sv a e h es => ⟨(I.own i sv a e h es).1, ?_, (I.own i sv a e h es).2.2⟩, I.apart, I.dom, fun a u e hn => ?_, fun p e => ?_, fun a h => ?_, fun q e => ⟨.inl (I.tab q e).1, (I.tab q e).2⟩, fun a nd e => ⟨(I.mu a nd e).1, (I.mu a nd e).2.1, (I.mu a nd e).2.2.1.imp id fun h => (if_neg (show ¬ a = D from fun z => (by rw [z, hM] at e; cases e))).trans h, (I.mu a nd e).2.2.2⟩, fun a h => ⟨(I.mu0 a h).1, up a (I.mu0 a h).2⟩, I.mz⟩
  · show (if a = D then some o else c.H0 a) = none
    rw [if_neg (show ¬ a = D from fun z => ho ⟨i, sv, e, h, by rw [← z]; exact es⟩)]
    exact (I.own i sv a e h es).2.1
  · have e : (if a = D then some o else c.H0 a) = some u := e
    split at e
    · rename_i z; rw [z, hD]; exact e
    · exact I.fr a u e hn
  · obtain ⟨h1, h2, h3, h4, h5⟩ := I.pen p e
    exact ⟨h1, h2, h3, up _ h4, up _ h5⟩
  · rcases h with h | h
    · exact ⟨(I.no a h).1, up a (I.no a h).2⟩
    · rw [h]
      exact ⟨hS, by show (if D = D then some o else c.H0 D) ≠ none; rw [if_pos rfl]; exact fun z => nomatch z⟩
/-- an object beside all that is told is changed or laid -/
theorem SI.put {D : Addr} {o : HO} (I : SI G K c σ H ρ n) (h0 : c.H0 D = none) (hS : ¬ c.S D) (hM : n.μ D = none) (ho : ¬ ownS ρ σ D) : SI G K c σ (upd H D o) ρ n ∧ Grow c.S c.S H (upd H D o) := by
  have g : Grow c.S c.S H (upd H D o) := ⟨fun _ q => q, fun b q => upd_ne (show b ≠ D from fun z => hS (z ▸ q))⟩
  refine ⟨⟨I.len, fun i sv e => (I.slots i sv e).grow g fun b eb h => upd_ne (show b ≠ D from fun z => ho ⟨i, sv, e, h, z ▸ eb⟩), I.own, I.apart, fun b q => by rw [g.eq b q]; exact I.dom b q, fun b u e q => ?_, fun q e => ?_, I.no, fun q e => ⟨(I.tab q e).1, (I.tab q e).2.grow g (upd_ne fun z => (I.tabN e).2.1 (by rw [z]; exact h0))⟩, fun b nd e => ⟨(I.mu b nd e).1.grow g (upd_ne (show b ≠ D from fun z => (by rw [z, hM] at e; cases e))), (I.mu b nd e).2⟩, I.mu0, I.mz⟩, g⟩
  · rw [upd_ne (show b ≠ D from fun z => by rw [z, h0] at e; cases e)]
    exact I.fr b u e q
  · obtain ⟨h1, h2, h3, h4, h5⟩ := I.pen q e
    exact ⟨G.dep h1 (upd_ne (show q.1 ≠ D from fun z => h4 (by rw [z]; exact h0))) (upd_ne (show q.2 ≠ D from fun z => h5 (by rw [z]; exact h0))), h2, h3, h4, h5⟩
/-- back from the block -/
theorem SI.restore {D : Addr} {o : HO} {vs : List Nat} {σ2 : L2.St} {ρ2 : Env} {H' : Hp} {S' : Addr → Prop} {k : Nt} (I : SI G K c σ H ρ n) (h0 : c.H0 D = none) (J : SI G K ((c.blk D o).to S') σ2 H' ρ2 k) (g : Grow c.S S' H H')
    (b : ∀ i, i ∉ vs → σ2[i]? = σ[i]?) (be : ∀ i, i ∉ vs → ρ2[i]? = ρ[i]?) (hn : noOwn vs ρ = true) : SI G K (c.to S') σ H' ρ k ∧ H' D = some o ∧ ¬ S' D ∧ k.μ D = none := by
  have nD : ∀ a, c.H0 a ≠ none → a ≠ D := fun a h e => h (e ▸ h0)
  have H0e : ∀ a, a ≠ D → (c.blk D o).H0 a = c.H0 a := fun a h => if_neg h
  have notIn : ∀ i sv, ρ[i]? = some sv → sv.isOwn = true → i ∉ vs := fun i sv e ho hi => by
    have := List.all_eq_true.mp hn i hi
    rw [e] at this
    simp [ho] at this
  have st : ∀ i, i ∉ vs → slot σ2 i = slot σ i := fun i h => by unfold slot; rw [b i h]
  have oD : ((c.blk D o).to S').H0 D = some o := if_pos rfl
  have notpen : ∀ a, ¬ G.pens c a → ¬ G.pens ((c.blk D o).to S') a := fun a h z => h z
  have muD : ∀ a nd, k.μ a = some nd → c.mu a ∨ c.H0 a = none := fun a nd e => (J.mu a nd e).2.2.1.imp id fun h => by
    by_cases z : a = D
    · rw [z, oD] at h; cases h
    · exact (H0e a z).symm.trans h
  have mD : k.μ D = none := by
    cases e : k.μ D with
    | none => rfl
    | some nd =>
      rcases (J.mu D nd e).2.2.1 with h | h
      · exact absurd h0 (I.mu0 D h).2
      · rw [oD] at h; cases h
  refine ⟨⟨I.len, fun i sv e => ?_, fun i sv a e ho es => ?_, I.apart, J.dom, fun a u e hp => ?_, fun p e => ?_, fun a h => ⟨(J.no a (.inl h)).1, (I.no a h).2⟩, fun q e => ⟨(I.tab q e).1, (J.tab q e).2⟩, fun a nd e => ⟨(J.mu a nd e).1, (J.mu a nd e).2.1, muD a nd e, (J.mu a nd e).2.2.2⟩, fun a h => ⟨(J.mu0 a h).1, (I.mu0 a h).2⟩, J.mz⟩, ?_, (J.no D (.inr rfl)).1, mD⟩
  · by_cases ho : sv.isOwn = true
    · have hi := notIn i sv e ho
      have q := J.slots i sv (by rw [be i hi]; exact e)
      rw [st i hi] at q
      cases sv with
      | own xs => exact q
      | ownK xs => exact q
      | _ => cases ho
    · exact (I.slots i sv e).grow g fun a _ h => absurd h ho
  · have hi := notIn i sv e ho
    have q := J.own i sv a (by rw [be i hi]; exact e) ho (by rw [st i hi]; exact es)
    exact ⟨q.1, (I.own i sv a e ho es).2.1, q.2.2⟩
  · exact J.fr a u (by rw [show ((c.blk D o).to S').H0 a = c.H0 a from H0e a (nD a (by rw [e]; exact fun z => nomatch z))]; exact e) (notpen a hp)
  · obtain ⟨h1, h2, h3, _, _⟩ := J.pen p e
    obtain ⟨_, _, _, h4, h5⟩ := I.pen p e
    exact ⟨h1, h2, h3, h4, h5⟩
  · exact J.fr D o oD (notpen D (I.penOld h0))
end

section
variable {G : PenK} {X : Cx} {Wx : WX}
/-- a block's tests -/
def Ts (G : PenK) (X : Cx) (es : List Expr) (g : Env → W Bool) : Prop := PTs X es (tT G X WF g)
theorem ts_nil : Ts G X [] (fun _ => ret true) := ⟨fun pins s σ H Q I ⟨c, ρ, n, P, PX, I', q, hg, hx⟩ => pts_nil.run pins s σ H Q I (hg true n c.S H q .refl I')⟩
theorem ts_one {e : Expr} {g : Env → W Bool} (h : T G X WF e g) : Ts G X [e] g := pts_one h
theorem lc_body {t : Tg} {gt : Env → W Bool} {ge : Env → W D} {vs : List Nat} {c : C} {σ : L2.St} {ρ : Env} {H H' : Hp} {S' : Addr → Prop} {k : Nt} {xs : List D} {J : It} {P : List D → Nt → Prop} {Q : VK} (hix : ∀ i ∈ t.ix, i ∈ vs) (hg : GlO G X c σ ρ H P Q) (hz : xs.length ≤ sizeLine) (hno : noOwn vs ρ = true)
    (p : compW t gt ge (wip vs ρ) xs k P fun _ _ => False) (g : Grow c.S S' H H') (I' : SI G X.K (c.to S') σ H' ρ k) (wk : Walks G X.K J S' H' xs) : tLc (fun _ H R => R J H) (gT X.K t) (tT G X WF gt) (tE G X WF ge) vs σ H' Q := fun D hD => by
    have h0 : c.H0 D = none := I'.freeOld hD
    have hS : ¬ S' D := I'.freeS hD
    have hM : k.μ D = none := I'.freeM hD
    have hO : ¬ ownS ρ σ D := fun z => I'.own_there z hD
    obtain ⟨ID, gD⟩ := SI.put (o := .lst []) I' h0 hS hM hO
    -- the turns
    refine ⟨fun i m H2 => m = xs.length - i ∧ i ≤ xs.length ∧ ∃ S2 k2 acc vac, Grow S' S2 H' H2 ∧ SI G X.K (c.to S2) σ H2 ρ k2 ∧ H2 D = some (.lst vac) ∧ ¬ S2 D ∧ k2.μ D = none ∧ Reps X.K S2 H2 acc vac ∧ acc.length ≤ i ∧ compW t gt ge (wip vs ρ) (xs.drop i) k2 (fun ys k => P (acc ++ ys) k) (fun _ _ => False),
      ⟨_, rfl, Nat.zero_le _, S', k, [], [], gD, ID, upd_same, hS, hM, rfl, Nat.le_refl _, p⟩, ?_⟩
    rintro i m H2 ⟨rfl, hi2, S2, k2, acc, vac, g2, I2, e2, n2, m2, r2, l2, p2⟩
    obtain ⟨w1, w2⟩ := wk (c.to S2) ρ σ H2 k2 i g2 I2
    by_cases hlt : i < xs.length
    · obtain ⟨go, yl⟩ := w1 hlt
      refine .inr ⟨go, fun H3 => ∃ S3 k3 acc vac, Grow S' S3 H' H3 ∧ SI G X.K (c.to S3) σ H3 ρ k3 ∧ H3 D = some (.lst vac) ∧ ¬ S3 D ∧ k3.μ D = none ∧ Reps X.K S3 H3 acc vac ∧ acc.length ≤ i + 1 ∧ compW t gt ge (wip vs ρ) (xs.drop (i + 1)) k3 (fun ys k => P (acc ++ ys) k) (fun _ _ => False),
        fun H3 q => ⟨xs.length - (i + 1), by omega, rfl, hlt, q⟩, fun v H3 y => ?_⟩
      -- the walk may look at the list too: it is kept by the block's ghost
      obtain ⟨wb, _⟩ := wk ((c.to S2).blk D (.lst vac)) ρ σ H2 k2 i g2 (SI.blk (c := c.to S2) I2 e2 h0 n2 m2 hO)
      obtain ⟨_, yb⟩ := wb hlt
      obtain ⟨S3, x, g3, I3, ex, r3⟩ := yb v H3 y
      have ed : xs.drop i = x :: xs.drop (i + 1) := by
        rw [List.drop_eq_getElem_cons hlt]
        rw [List.getElem?_eq_getElem hlt] at ex
        cases ex
        rfl
      rw [ed] at p2
      refine gT_ok t (SI.wipe vs I3) r3 p2 fun ρ4 k4 σ4 p4 I4 b4 be4 => ⟨wipe_but b4 hix, ⟨_, ρ4, k4, fun b k => (if b = true then bnd (ge ρ4) fun y => bnd (compW t gt ge (wip vs ρ) (xs.drop (i + 1))) fun ys => ret (y :: ys) else compW t gt ge (wip vs ρ) (xs.drop (i + 1))) k (fun ys k => P (acc ++ ys) k) (fun _ _ => False), fun _ _ => False, I4, p4, fun b k5 S5 H5 p5 g5 I5 => ?_, fun _ _ _ _ _ _ z => z.elim⟩⟩
      have outσ : ∀ i, i ∉ vs → σ4[i]? = σ[i]? := fun i h => (b4.2 i fun z => h (hix i z)).trans (wipe_out vs σ i h)
      have outρ : ∀ i, i ∉ vs → ρ4[i]? = ρ[i]? := fun i h => (be4.2 i fun z => h (hix i z)).trans (wip_out vs ρ i h)
      have g25 : Grow S2 S5 H2 H5 := g3.trans g5
      cases b with
      | false =>
        obtain ⟨J5, eD5, nD5, mD5⟩ := SI.restore (vs := vs) (c := c.to S2) I2 h0 I5 g25 outσ outρ hno
        exact iteF ⟨S5, k5, acc, vac, g2.trans g25, J5, eD5, nD5, mD5, Reps.grow g25 _ _ r2, Nat.le_succ_of_le l2, p5⟩
      | true =>
        refine iteT (tE.bnd I5 p5 (fun _ _ _ _ _ _ z => z.elim) fun d k6 u S6 H6 p6 g6 I6 _ r6 => ?_)
        have g26 : Grow S2 S6 H2 H6 := g25.trans g6
        obtain ⟨J6, eD6, nD6, mD6⟩ := SI.restore (vs := vs) (c := c.to S2) I2 h0 I6 g26 outσ outρ hno
        have r26 := Reps.grow g26 _ _ r2
        refine ⟨vac, eD6, by rw [r2.len]; omega, S6, k6, acc ++ [d], vac ++ [u], ?_, ?_, upd_same, nD6, mD6, ?_, by rw [List.length_append]; show acc.length + 1 ≤ i + 1; omega, ?_⟩
        · exact (g2.trans g26).trans (SI.put (o := .lst (vac ++ [u])) J6 h0 nD6 mD6 hO).2
        · exact (SI.put (o := .lst (vac ++ [u])) J6 h0 nD6 mD6 hO).1
        · exact Reps.grow (SI.put (o := .lst (vac ++ [u])) J6 h0 nD6 mD6 hO).2 _ _ (Reps.app r26 (Reps.one r6))
        · have e : (fun (ys : List PL.D) (k : Nt) => P ((acc ++ [d]) ++ ys) k) = fun ys k => P (acc ++ (d :: ys)) k := by
            funext ys k
            rw [List.append_assoc]
            rfl
          rw [e]
          exact p6
    · have e : i = xs.length := by omega
      subst e
      rw [List.drop_length] at p2
      have p2' : P acc k2 := by
        have q : P (acc ++ []) k2 := p2
        rwa [List.append_nil] at q
      exact .inl ⟨w2 (Nat.le_refl _), hg acc k2 D vac S2 H2 p2' (g.trans g2) I2 e2 (by have : xs.length ≤ sizeLine := hz; omega) r2 ⟨⟨n2, h0, m2⟩, fun i sv e ho es => hO ⟨i, sv, e, ho, es⟩⟩⟩
theorem lc_law {t : Tg} {g : Env → W (List D)} {gt : Env → W Bool} {ge : Env → W D} {vs : List Nat} {σ : L2.St} {H : Hp} {Q : VK} (hix : ∀ i ∈ t.ix, i ∈ vs)
    (hh : tO G X Wx (fun ρ => bnd (g ρ) fun xs => few xs (grd (noOwn vs ρ = true) (quiet (compW t gt ge (wip vs ρ) xs)))) σ H Q) : tLc (tI G X Wx g) (gT X.K t) (tT G X WF gt) (tE G X WF ge) vs σ H Q := by
    obtain ⟨c, ρ, n, P, PX, I, q, hg, hx⟩ := hh
    exact ⟨c, ρ, n, fun xs k => few xs (grd (noOwn vs ρ = true) (quiet (compW t gt ge (wip vs ρ) xs))) k P PX, PX, I, q, fun xs k S' H' J ⟨hz, hno, p⟩ g I' wk => lc_body hix hg hz hno p g I' wk, hx⟩
theorem o_lc {elt tg iter : Expr} {ifs : List Expr} {scope : Scope} {own : List (Str × Nat)} {pos : Pos} {t : Tg} {g : Env → W (List D)} {gt : Env → W Bool} {ge : Env → W D} (hc : X.calm = true) (hN : X.N.Nodup) (hi : Wk G X Wx tg iter g) (ok : BlkOk X.N X.env.scope scope own)
    (hg : ∀ (s : Shared) (H : Hp) (A : Addr) (cl : List (Str × Addr)) (fp : List Addr), PTg (X.blk s H scope (compEnvC scope cl A X.env) fp) tg t) (ht : ∀ (s : Shared) (H : Hp) (A : Addr) (cl : List (Str × Addr)) (fp : List Addr), Ts G (X.blk s H scope (compEnvC scope cl A X.env) fp) ifs gt)
    (he : ∀ (s : Shared) (H : Hp) (A : Addr) (cl : List (Str × Addr)) (fp : List Addr), E G (X.blk s H scope (compEnvC scope cl A X.env) fp) WF elt ge) (hix : ∀ i ∈ t.ix, i ∈ own.map (·.2) := by decide) (hs : ∀ x, foldedSetIterable iter X.env x = pure x := by intro _; rfl) :
    EO G X Wx (.ListComp elt [⟨tg, iter, ifs, 0⟩] scope pos) (fun ρ => bnd (g ρ) fun xs => few xs (grd (noOwn (own.map (·.2)) ρ = true) (quiet (compW t gt ge (wip (own.map (·.2)) ρ) xs)))) :=
  weakE (pe_lc (g := gT X.K t) (tt := tT G X WF gt) (te := tE G X WF ge) hc hN hi ok hg ht he hs) fun σ H Q q => lc_law hix q
end
end PL

/-! The layer: defs and their calls. -/
namespace PL
open PySem PySem.Spec PyProof.Rows L2

/-! ### a def's promise, where no repr is under way -/
structure FnG (P : Program) (w : World) (K : PySem.W.Frag) (mg : Str → Option Value) (base : Heap) (k : Nat) (f : Addr) (fd : FuncData) (ps : List Str) (sp : Sp) : Prop where
  len : ∀ vs H Q E, sp vs H Q E → vs.length = ps.length
  run : ∀ (A : Around) (outer : List PySem.Env) (s : Shared) (H : Hp) (args : Args) (us : List Value) (vs : List V) (Q : VK) (E : XK), A.guards = some [] → Room k A → Env0 P w K mg base A outer s H →
    BindsTo s fd args (ps.zip us) → Vals vs us → sp vs H Q E → codeAny (model P w) A (.call (.ref f) args) (CR (L2.CX P w) outer P w H s Q E) s
theorem FnG.mono {P : Program} {w : World} {K : PySem.W.Frag} {mg : Str → Option Value} {base : Heap} {j k : Nat} {f : Addr} {fd : FuncData} {ps : List Str} {sp : Sp} (F : FnG P w K mg base j f fd ps sp) (h : j ≤ k) : FnG P w K mg base k f fd ps sp :=
  ⟨F.len, fun A outer s H args us vs Q E hg hr => F.run A outer s H args us vs Q E hg (hr.mono h)⟩
theorem FnG.imp {P : Program} {w : World} {K : PySem.W.Frag} {mg : Str → Option Value} {base : Heap} {k : Nat} {f : Addr} {fd : FuncData} {ps : List Str} {sp sp' : Sp} (F : FnG P w K mg base k f fd ps sp)
    (h : ∀ vs H Q E, sp' vs H Q E → sp vs H Q E) : FnG P w K mg base k f fd ps sp' :=
  ⟨fun vs H Q E q => F.len vs H Q E (h _ _ _ _ q), fun A outer s H args us vs Q E hg hr he hb hv hs => F.run A outer s H args us vs Q E hg hr he hb hv (h _ _ _ _ hs)⟩

theorem FnG.of_bodyC {P : Program} {w : World} {K : PySem.W.Frag} {mg : Str → Option Value} {base : Heap} {k : Nat} {f : Addr} {fd : FuncData} {x qual : Str} {st : Stmt} {N ps : List Str} {sp : Sp} (F : Fun K x qual st f fd) (S : FnScope N ps (defScope st))
    (len : ∀ vs H Q E, sp vs H Q E → vs.length = ps.length)
    (body : ∀ (cdv : Value) (A : Around) (outer : List PySem.Env) (s : Shared) (H : Hp) (vs : List V) (Q : VK) (E : XK), fd.code = cdv → A.guards = some [] → Room k (A.deeper (envOfC qual (defScope st) s.heap.objs.size f cdv)) → sp vs H Q E →
      ∃ t, PSs (cxOf (L2.CX P w) P w K mg base N qual (defScope st) f cdv A outer s H E) (defBody st) t ∧ t { nx := fun _ H' => Q .non H', rt := Q } (L2.start N vs) H) : FnG P w K mg base (k + 1) f fd ps sp := by
  obtain ⟨oc, od, kV, doc, pm, an, cdv, ct, osl, rfl, lk, hcd⟩ := F.ex
  refine ⟨len, fun A outer s H args us vs Q E hg hr e0 hb r hsp => ?_⟩
  have hk : K.In s.heap := e0.mod.kin.keeps fun b o e => (e0.bs b o e).1
  have hlim : s.heap.NoLimit := e0.mod.nolimit.keeps fun b o e => (e0.bs b o e).1
  have loc : ∀ y ∈ ps.zip us, (defScope st).names.lookup y.1 = some .local ∨ ((defScope st).names.lookup y.1 = some .cell ∧ ((cellsFrom (s.heap.objs.size + 1) (defScope st).names []).lookup y.1).isSome = true) := by
    rintro ⟨y, v⟩ hy
    cases S.par y (List.of_mem_zip hy).1 with
    | inl q => exact Or.inl q
    | inr q => exact Or.inr ⟨q, PySem.W.cellsFrom_some _ _ _ (Or.inl q)⟩
  refine codeAny_call_function hr.depth (hk _ _ lk) rfl S.co S.gen rfl (PySem.W.codeRec_of hk hcd) (hb _ _ _ _ (wpAny_newFunctionEnv_cells S.kind loc ?_))
  rintro env rfl s1 hin
  refine ⟨hlim.keeps hin.toInCall.keep, codeAny_func ?_⟩
  obtain ⟨t, ht, hq⟩ := body cdv A outer s H vs Q E rfl hg (hr.deeper _) hsp
  have J := inv_start (CX := L2.CX P w) (E := E) (mg := mg) (base := base) S hr.hd e0 (len _ _ _ _ hsp) r hin
  refine wpAny_mono (ht.run [] s1 (L2.start N vs) H _ J hq) (fun fl s' hs => ?_) fun _ _ z => z
  cases fl with
  | ret u => obtain ⟨v, σ', H', J', rv, q⟩ := hs; exact ⟨v, H', J'.os, J'.bare, J'.base, J'.hok, rv, q⟩
  | next => obtain ⟨σ', H', J', q⟩ := hs; exact ⟨.non, H', J'.os, J'.bare, J'.base, J'.hok, rfl, q⟩
  | brk => obtain ⟨_, _, _, q⟩ := hs; exact q.elim
  | cont => obtain ⟨_, _, _, q⟩ := hs; exact q.elim

theorem FnG.of_body {P : Program} {w : World} {K : PySem.W.Frag} {mg : Str → Option Value} {base : Heap} {k : Nat} {f : Addr} {fd : FuncData} {x qual : Str} {st : Stmt} {N ps : List Str} {sp : Sp} (F : Fun K x qual st f fd) (S : FnScope N ps (defScope st))
    (len : ∀ vs H Q E, sp vs H Q E → vs.length = ps.length)
    (body : ∀ (cdv : Value) (A : Around) (outer : List PySem.Env) (s : Shared) (H : Hp) (vs : List V) (Q : VK) (E : XK), A.guards = some [] → Room k (A.deeper (envOfC qual (defScope st) s.heap.objs.size f cdv)) → sp vs H Q E →
      ∃ t, PSs (cxOf (L2.CX P w) P w K mg base N qual (defScope st) f cdv A outer s H E) (defBody st) t ∧ t { nx := fun _ H' => Q .non H', rt := Q } (L2.start N vs) H) : FnG P w K mg base (k + 1) f fd ps sp :=
  FnG.of_bodyC F S len fun cdv A outer s H vs Q E _ => body cdv A outer s H vs Q E

/-! ### promises over data -/
def ArgOk (K : PySem.W.Frag) (S : Addr → Prop) (H : Hp) (pen : Option (Addr × Addr)) : SV → V → Prop
  | .d x, v => Rep K S H x v
  | .pen, v => ∃ p, pen = some p ∧ v = .ref p.1
  | .lam f c q σ ds, v => v = .ref f ∧ LamOk K S H c q σ ds
  | .o a, v => v = .ref a
  | _, _ => False
def ArgsOk (K : PySem.W.Frag) (S : Addr → Prop) (H : Hp) (pen : Option (Addr × Addr)) : List SV → List V → Prop
  | [], vs => vs = []
  | x :: xs, vs => ∃ v ws, vs = v :: ws ∧ ArgOk K S H pen x v ∧ ArgsOk K S H pen xs ws
/-- the objects that are changed, as a callee finds them -/
def MuOk (G : PenK) (K : PySem.W.Frag) (S : Addr → Prop) (H : Hp) (pen : Option (Addr × Addr)) (n : Nt) : Prop :=
  (∀ a nd, n.μ a = some nd → NdOk K S H a nd ∧ ¬ S a ∧ (∀ p, pen = some p → a ≠ p.1 ∧ a ≠ p.2) ∧ ∀ q ∈ G.tab, a ≠ q.1) ∧ (G.chg = false → ∀ a, n.μ a = none)
structure After (G : PenK) (K : PySem.W.Frag) (S S' : Addr → Prop) (pen : Option (Addr × Addr)) (n : Nt) (H H' : Hp) (k : Nt) : Prop where
  grow : Grow S S' H H'
  dom : ∀ a, S' a → H' a ≠ none
  new : ∀ a, S' a → S a ∨ H a = none
  fr : ∀ a o, H a = some o → (∀ p, pen = some p → a ≠ p.1 ∧ a ≠ p.2) → (∀ q ∈ G.tab, a ≠ q.1) → n.μ a = none → H' a = some o
  tab : ∀ q ∈ G.tab, TabI S' H' q.1 q.2
  pen : ∀ p, pen = some p → G.inv H' p.1 p.2 k.n ∧ ¬ S' p.1 ∧ ¬ S' p.2
  mu : ∀ a nd, k.μ a = some nd → NdOk K S' H' a nd ∧ ¬ S' a ∧ (n.μ a ≠ none ∨ H a = none)
  mu0 : ∀ a, n.μ a ≠ none → k.μ a ≠ none
  mz : G.chg = false → ∀ a, k.μ a = none
def spM (G : PenK) (K : PySem.W.Frag) (mg : Str → Option Value) (ps : Nat) (m : List SV → W D) : Sp := fun vs H Q E =>
  ∃ (S : Addr → Prop) (pen : Option (Addr × Addr)) (args : List SV) (n : Nt) (P : D → Nt → Prop) (PX : Exc → Nt → Prop),
    args.length = ps ∧ (∀ a, S a → H a ≠ none) ∧ (∀ p, pen = some p → G.inv H p.1 p.2 n.n ∧ ¬ S p.1 ∧ ¬ S p.2) ∧ (∀ q ∈ G.tab, ¬ S q.1 ∧ TabI S H q.1 q.2) ∧ MuOk G K S H pen n ∧ ArgsOk K S H pen args vs ∧ m args n P PX ∧
    (∀ d k v S' H', P d k → After G K S S' pen n H H' k → Rep K S' H' d v → Q v H') ∧ ∀ x k S' H' cls dd, PX x k → After G K S S' pen n H H' k → RepX K mg S' H' x cls dd → E cls dd H'
section
variable {K : PySem.W.Frag} {S : Addr → Prop} {H : Hp} {pen : Option (Addr × Addr)}
theorem ArgsOk.len : ∀ {xs : List SV} {vs : List V}, ArgsOk K S H pen xs vs → vs.length = xs.length
  | [], _, h => by
    have e : _ = [] := h
    rw [e]
    rfl
  | _ :: xs, _, h => by
    obtain ⟨v, ws, rfl, _, q⟩ := h
    show ws.length + 1 = xs.length + 1
    rw [ArgsOk.len q]
theorem ArgsOk.get : ∀ {xs : List SV} {vs : List V} {i : Nat} {x : SV}, ArgsOk K S H pen xs vs → xs[i]? = some x → ∃ v, vs[i]? = some v ∧ ArgOk K S H pen x v
  | [], _, _, _, _, e => nomatch e
  | y :: xs, _, 0, x, h, e => by
    obtain ⟨v, ws, rfl, r, _⟩ := h
    cases e
    exact ⟨v, rfl, r⟩
  | y :: xs, _, i + 1, x, h, e => by
    obtain ⟨v, ws, rfl, _, q⟩ := h
    exact ArgsOk.get (i := i) q e
theorem ArgsOk.app : ∀ {xs ys : List SV} {vs ws : List V}, ArgsOk K S H pen xs vs → ArgsOk K S H pen ys ws → ArgsOk K S H pen (xs ++ ys) (vs ++ ws)
  | [], ys, vs, ws, h, q => by
    have e : vs = [] := h
    rw [e]
    exact q
  | x :: xs, ys, vs, ws, h, q => by
    obtain ⟨v, us, rfl, r, t⟩ := h
    exact ⟨v, us ++ ws, rfl, r, ArgsOk.app t q⟩
theorem ArgOk.grow {S' : Addr → Prop} {H' : Hp} (g : Grow S S' H H') : ∀ {x : SV} {v : V}, ArgOk K S H pen x v → ArgOk K S' H' pen x v
  | .d x, v, h => Rep.grow g x v h
  | .pen, _, h => h
  | .un, _, h => h.elim
  | .own _, _, h => h.elim
  | .ownK _, _, h => h.elim
  | .exc _, _, h => h.elim
  | .lam _ _ _ _ _, _, h => ⟨h.1, h.2.grow g⟩
  | .o _, _, h => h
theorem ArgsOk.grow {S' : Addr → Prop} {H' : Hp} (g : Grow S S' H H') : ∀ {xs : List SV} {vs : List V}, ArgsOk K S H pen xs vs → ArgsOk K S' H' pen xs vs
  | [], _, h => h
  | x :: xs, _, h => by
    obtain ⟨v, ws, e, r, q⟩ := h
    exact ⟨v, ws, e, r.grow g, ArgsOk.grow g q⟩
end

section
variable {G : PenK} {P : Program} {w : World} {K : PySem.W.Frag} {mg : Str → Option Value} {base : Heap}
theorem start_slot {N : List Str} {vs : List V} {i : Nat} : slot (L2.start N vs) i = vs[i]? := by
  unfold slot L2.start
  by_cases h : i < vs.length
  · rw [List.getElem?_append_left (by rw [List.length_map]; exact h), List.getElem?_map, List.getElem?_eq_getElem h]
    rfl
  · rw [List.getElem?_append_right (by rw [List.length_map]; omega), List.getElem?_replicate, List.getElem?_eq_none (by omega)]
    split <;> rfl
/-- the state at a body's entry -/
theorem SI.entry {S : Addr → Prop} {H : Hp} {pen : Option (Addr × Addr)} {args : List SV} {vs : List V} {N : List Str} {n : Nt} (hl : args.length ≤ N.length) (dom : ∀ a, S a → H a ≠ none) (hp : ∀ p, pen = some p → G.inv H p.1 p.2 n.n ∧ ¬ S p.1 ∧ ¬ S p.2) (ht : ∀ q ∈ G.tab, ¬ S q.1 ∧ TabI S H q.1 q.2) (hm : MuOk G K S H pen n)
    (r : ArgsOk K S H pen args vs) : SI G K ⟨S, H, pen, fun a => H a ≠ none ∧ ¬ S a, fun a => n.μ a ≠ none⟩ (L2.start N vs) H (args ++ List.replicate (N.length - args.length) SV.un) n := by
  have lv := r.len
  have key : ∀ (i : Nat) (sv : SV), (args ++ List.replicate (N.length - args.length) SV.un)[i]? = some sv → sv = .un ∨ args[i]? = some sv := fun i sv e => by
    by_cases h : i < args.length
    · rw [List.getElem?_append_left h] at e
      exact .inr e
    · rw [List.getElem?_append_right (by omega), List.getElem?_replicate] at e
      split at e
      · exact .inl (Option.some.inj e).symm
      · cases e
  have noO : ∀ (i : Nat) (sv : SV), (args ++ List.replicate (N.length - args.length) SV.un)[i]? = some sv → sv.isOwn = true → False := fun i sv e ho => by
    rcases key i sv e with rfl | e
    · cases ho
    · obtain ⟨v, _, q⟩ := r.get e
      cases sv with
      | own _ => exact q
      | ownK _ => exact q
      | _ => cases ho
  refine ⟨?_, fun i sv e => ?_, fun i sv a e ho => (noO i sv e ho).elim, fun i j sv sv' a _ e _ ho => (noO i sv e ho).elim, dom, fun a o e _ => e, fun p e => ?_, fun a h => ⟨h.2, h.1⟩, fun q e => ⟨⟨(ht q e).2.there, (ht q e).1⟩, (ht q e).2⟩, fun a nd e => ⟨(hm.1 a nd e).1, (hm.1 a nd e).2.1, .inl (by show n.μ a ≠ none; rw [e]; exact fun z => nomatch z), fun z => ?_⟩, fun a h => ⟨h, ?_⟩, hm.2⟩
  · unfold L2.start
    rw [List.length_append, List.length_replicate, List.length_append, List.length_map, List.length_replicate, lv]
  · rcases key i sv e with rfl | e
    · trivial
    · obtain ⟨v, e2, q⟩ := r.get e
      rw [start_slot, e2]
      cases sv with
      | d x => exact ⟨v, rfl, q⟩
      | pen => obtain ⟨p, h1, h2⟩ := q; exact ⟨p, h1, by rw [h2]⟩
      | un => trivial
      | own _ => exact q.elim
      | ownK _ => exact q.elim
      | exc _ => exact q.elim
      | lam _ _ _ _ _ => exact ⟨by rw [q.1], q.2⟩
      | o _ => exact congrArg some q
  · obtain ⟨h1, h2, h3⟩ := hp p e
    obtain ⟨k1, k2⟩ := G.there h1
    exact ⟨h1, h2, h3, k1, k2⟩
  · rcases z with ⟨p, e2, z⟩ | ⟨q, e2, z⟩
    · exact z.elim ((hm.1 a nd e).2.2.1 p e2).1 ((hm.1 a nd e).2.2.1 p e2).2
    · exact (hm.1 a nd e).2.2.2 q e2 z
  · obtain ⟨nd, e⟩ := Option.ne_none_iff_exists'.mp h
    exact (hm.1 a nd e).1.there
theorem SI.after {S S' : Addr → Prop} {H H' : Hp} {pen : Option (Addr × Addr)} {σ : L2.St} {ρ : Env} {n k : Nt} (g : Grow S S' H H') (I : SI G K ⟨S', H, pen, fun a => H a ≠ none ∧ ¬ S a, fun a => n.μ a ≠ none⟩ σ H' ρ k) : After G K S S' pen n H H' k := by
  refine ⟨g, I.dom, fun a h => ?_, fun a o e h ht hn => I.fr a o e fun z => z.elim (fun z => z.elim (fun ⟨p, e2, z⟩ => z.elim (h p e2).1 (h p e2).2) (fun ⟨q, e2, z⟩ => ht q e2 z)) fun z => z hn, fun q e => (I.tab q e).2, fun p e => ?_, fun a nd e => ⟨(I.mu a nd e).1, (I.mu a nd e).2.1, (I.mu a nd e).2.2.1⟩, fun a h => (I.mu0 a h).1, I.mz⟩
  · by_cases hs : S a
    · exact .inl hs
    · exact .inr (Classical.byContradiction fun z => (I.no a ⟨z, hs⟩).1 h)
  · obtain ⟨h1, h2, h3, _⟩ := I.pen p e
    exact ⟨h1, h2, h3⟩
end

/-! ### arguments of a def -/
section
variable {G : PenK} {X : Cx} {Wx : WX}
def GlV (G : PenK) (X : Cx) (c : C) (σ : L2.St) (ρ : Env) (H : Hp) (P : List SV → Nt → Prop) (Q : List V → Hp → Prop) : Prop :=
  ∀ ds k vs S' H', P ds k → Grow c.S S' H H' → SI G X.K (c.to S') σ H' ρ k → ArgsOk X.K S' H' c.pen ds vs → Q vs H'
def tVr (G : PenK) (X : Cx) (Wx : WX) (g : Env → W (List SV)) : TA := fun σ H Q => ∃ c ρ n P PX, SI G X.K c σ H ρ n ∧ g ρ n P PX ∧ GlV G X c σ ρ H P Q ∧ OKx G X Wx c σ ρ H PX
def AV (G : PenK) (X : Cx) (Wx : WX) (es : List Expr) (g : Env → W (List SV)) : Prop := PA X es (tVr G X Wx g)
def KV (G : PenK) (X : Cx) (Wx : WX) (kws : List Keyword) (g : Env → W (List SV)) : Prop := PK X kws (tVr G X Wx g)
theorem v_nil : AV G X Wx [] (fun _ => ret []) := weakA pa_nil fun σ H Q ⟨c, ρ, n, P, PX, I, q, hg, hx⟩ => hg [] n [] c.S H q .refl I rfl
theorem v_cons {e : Expr} {es : List Expr} {g : Env → W D} {gs : Env → W (List SV)} (h : E G X Wx e g) (hs : AV G X Wx es gs) (hp : starEach (e :: es) X.env = (false, eval e X.env) :: starEach es X.env := by rfl) :
    AV G X Wx (e :: es) (fun ρ => bnd (g ρ) fun x => bnd (gs ρ) fun xs => ret (.d x :: xs)) :=
  weakA (pa_cons h hs hp) fun σ H Q ⟨c, ρ, n, P, PX, I, q, hg, hx⟩ => tE.bnd I q hx fun d k u S' H' p g I' hx' r =>
    ⟨c.to S', ρ, k, fun ds k => P (.d d :: ds) k, PX, I', p, fun ds k2 us S2 H2 p2 g2 I2 r2 => hg (.d d :: ds) k2 (u :: us) S2 H2 p2 (g.trans g2) I2 ⟨u, us, rfl, Rep.grow g2 _ _ r, r2⟩, hx'⟩
def isPen (ρ : Env) (i : Nat) {α : Type} (m : W α) : W α := match ρ[i]? with
  | some .pen => m
  | _ => stuck
theorem isPen_inv {ρ : Env} {i : Nat} {α : Type} {m : W α} {n : Nt} {P : α → Nt → Prop} {PX : Exc → Nt → Prop} (h : isPen ρ i m n P PX) : ρ[i]? = some .pen ∧ m n P PX := by
  unfold isPen at h
  cases e : ρ[i]? with
  | none => rw [e] at h; exact h.elim
  | some sv =>
    rw [e] at h
    cases sv with
    | pen => exact ⟨rfl, h⟩
    | _ => exact h.elim
theorem v_pen {x : Str} {pos : Pos} {es : List Expr} {gs : Env → W (List SV)} (i : Nat) (hs : AV G X Wx es gs) (hN : X.N[i]? = some x := by rfl) (hv : Vis X.env.scope x := by first | exact Or.inl rfl | exact Or.inr (Or.inl rfl) | exact Or.inr (Or.inr rfl)) (hd : (x == ("__debug__" : Str)) = false := by decide)
    (hcd : (x == ("__classdict__" : Str)) = false := by decide) (hp : starEach (.Name x pos :: es) X.env = (false, eval (.Name x pos) X.env) :: starEach es X.env := by rfl) : AV G X Wx (.Name x pos :: es) (fun ρ => isPen ρ i (bnd (gs ρ) fun xs => ret (.pen :: xs))) :=
  weakA (pa_cons (pe_var hN hv hd hcd) hs hp) fun σ H Q ⟨c, ρ, n, P, PX, I, q, hg, hx⟩ => by
    obtain ⟨e, q⟩ := isPen_inv q
    obtain ⟨p, e1, e2⟩ := I.slots i _ e
    exact ⟨.ref p.1, slot_some e2, c, ρ, n, fun ds k => P (.pen :: ds) k, PX, I, q, fun ds k2 us S2 H2 p2 g2 I2 r2 => hg (.pen :: ds) k2 (.ref p.1 :: us) S2 H2 p2 g2 I2 ⟨_, us, rfl, ⟨p, e1, rfl⟩, r2⟩, hx⟩
theorem kv_nil : KV G X Wx [] (fun _ => ret []) := ⟨fun pos pins s σ H Q I ⟨c, ρ, n, P, PX, I', q, hg, hx⟩ => pk_nil.run pos pins s σ H Q I (hg [] n [] c.S H q .refl I' rfl)⟩
theorem kv_cons {nm : Option Str} {e : Expr} {kpos : Pos} {kws : List Keyword} {g : Env → W D} {gs : Env → W (List SV)} (h : E G X Wx e g) (hs : KV G X Wx kws gs) : KV G X Wx (⟨nm, e, kpos⟩ :: kws) (fun ρ => bnd (g ρ) fun x => bnd (gs ρ) fun xs => ret (.d x :: xs)) :=
  ⟨fun pos pins s σ H Q I ⟨c, ρ, n, P, PX, I', q, hg, hx⟩ => (pk_cons h hs).run pos pins s σ H Q I (tE.bnd I' q hx fun d k u S' H' p g I2 hx' r =>
    ⟨c.to S', ρ, k, fun ds k => P (.d d :: ds) k, PX, I2, p, fun ds k2 us S2 H2 p2 g2 I3 r2 => hg (.d d :: ds) k2 (u :: us) S2 H2 p2 (g.trans g2) I3 ⟨u, us, rfl, Rep.grow g2 _ _ r, r2⟩, hx'⟩)⟩

/-- a call: one without the source of draws costs none -/
def callM (m : List SV → W D) (args : List SV) : W D :=
  if args.any (fun s => match s with | .pen => true | _ => false) then m args else fun n P PX => m args ⟨0, n.μ⟩ (fun d k => P d ⟨n.n, k.μ⟩) fun x k => PX x ⟨n.n, k.μ⟩
theorem ArgsOk.nopen {K : PySem.W.Frag} {S : Addr → Prop} {H : Hp} {pen : Option (Addr × Addr)} : ∀ {xs : List SV} {vs : List V}, xs.any (fun s => match s with | .pen => true | _ => false) = false → ArgsOk K S H pen xs vs → ArgsOk K S H none xs vs
  | [], _, _, h => h
  | x :: xs, _, e, h => by
    obtain ⟨v, ws, e1, r, q⟩ := h
    rw [List.any_cons, Bool.or_eq_false_iff] at e
    refine ⟨v, ws, e1, ?_, ArgsOk.nopen e.2 q⟩
    cases x with
    | pen => cases e.1
    | _ => exact r
/-- the caller's state behind a call -/
theorem SI.called {K : PySem.W.Frag} {c : C} {σ : L2.St} {ρ : Env} {H H' : Hp} {n k : Nt} {S' : Addr → Prop} {pen : Option (Addr × Addr)} (I : SI G K c σ H ρ n) (h : After G K c.S S' pen n H H' k) (hp : pen = c.pen ∨ (pen = none ∧ k.n = n.n)) : SI G K (c.to S') σ H' ρ k := by
  have keep : ∀ a o, H a = some o → ¬ G.pens c a → n.μ a = none → H' a = some o := fun a o e np nm => h.fr a o e (fun p ep => by
    rcases hp with z | z
    · exact ⟨fun q => np (.inl (.inl ⟨p, z ▸ ep, .inl q⟩)), fun q => np (.inl (.inl ⟨p, z ▸ ep, .inr q⟩))⟩
    · rw [z.1] at ep; cases ep) (fun q hq z => np (.inl (.inr ⟨q, hq, z⟩))) nm
  have nomu : ∀ a o, c.H0 a = some o → ¬ G.pens c a → n.μ a = none := fun a o e np => by
    cases q : n.μ a with
    | none => rfl
    | some nd =>
      rcases (I.mu a nd q).2.2.1 with z | z
      · exact absurd (.inr z) np
      · rw [e] at z; cases z
  refine ⟨I.len, fun i sv e => (I.slots i sv e).grow h.grow fun a ea ho => ?_, fun i sv a e ho es => ?_, I.apart, h.dom, fun a o e np => keep a o (I.fr a o e np) np (nomu a o e np), fun p e => ?_, fun a q => ?_, fun q e => ⟨(I.tab q e).1, h.tab q e⟩, fun a nd e => ?_, fun a q => ⟨h.mu0 a (I.mu0 a q).1, (I.mu0 a q).2⟩, h.mz⟩
  · have y := I.own i sv a e ho ea
    cases q : H a with
    | none => exact absurd q (I.own_there ⟨i, sv, e, ho, ea⟩)
    | some o => exact keep a o q (I.penOld y.2.1) y.2.2
  · have y := I.own i sv a e ho es
    refine ⟨fun z => (h.new a z).elim y.1 (I.own_there ⟨i, sv, e, ho, es⟩), y.2.1, ?_⟩
    cases q : k.μ a with
    | none => rfl
    | some nd => exact (h.mu a nd q).2.2.elim (fun z => absurd y.2.2 z) fun z => absurd z (I.own_there ⟨i, sv, e, ho, es⟩)
  · obtain ⟨h1, h2, h3, h4, h5⟩ := I.pen p e
    rcases hp with z | ⟨z, z2⟩
    · obtain ⟨k1, k2, k3⟩ := h.pen p (z ▸ e)
      exact ⟨k1, k2, k3, h4, h5⟩
    · obtain ⟨k1, k2⟩ := G.there h1
      have same : ∀ b, H b ≠ none → (∀ q ∈ G.tab, b ≠ q.1) → n.μ b = none → H' b = H b := fun b hb ht hn => by
        cases q : H b with
        | none => exact absurd q hb
        | some o => exact h.fr b o q (fun p' e' => by rw [z] at e'; cases e') ht hn
      have nt : ∀ b, (∃ xs, H b = some (.lst xs)) → ∀ q ∈ G.tab, b ≠ q.1 := fun b ⟨xs, e1⟩ q hq z => by
        obtain ⟨ps, e2, _⟩ := (I.tab q hq).2
        rw [← z, e1] at e2
        cases e2
      have pm : ∀ b, (b = p.1 ∨ b = p.2) → n.μ b = none := fun b hb => by
        cases q : n.μ b with
        | none => rfl
        | some nd => exact absurd (.inl ⟨p, e, hb⟩) (I.mu b nd q).2.2.2
      rw [z2]
      exact ⟨G.dep h1 (same _ k1 (nt _ (G.isL h1).1) (pm _ (.inl rfl))) (same _ k2 (nt _ (G.isL h1).2) (pm _ (.inr rfl))), fun q => (h.new _ q).elim h2 k1, fun q => (h.new _ q).elim h3 k2, h4, h5⟩
  · obtain ⟨h1, h2⟩ := I.no a q
    refine ⟨fun z => (h.new a z).elim h1 fun z => ?_, h2⟩
    have := I.freeOld z
    exact h2 this
  · obtain ⟨m1, m2, m3⟩ := h.mu a nd e
    refine ⟨m1, m2, ?_⟩
    rcases m3 with z | z
    · obtain ⟨nd0, e0⟩ := Option.ne_none_iff_exists'.mp z
      exact (I.mu a nd0 e0).2.2
    · refine ⟨.inr (I.freeOld z), fun w => ?_⟩
      rcases w with ⟨p, e2, w⟩ | ⟨q, e2, w⟩
      · obtain ⟨k1, k2⟩ := G.there (I.pen p e2).1
        exact w.elim (fun w => k1 (w ▸ z)) fun w => k2 (w ▸ z)
      · exact (I.tabN e2).2.2 (w ▸ z)
/-- the objects that are changed, for a callee -/
theorem SI.muOk {K : PySem.W.Frag} {c : C} {σ : L2.St} {ρ : Env} {H : Hp} {n : Nt} (I : SI G K c σ H ρ n) (pen : Option (Addr × Addr)) (hp : ∀ p, pen = some p → c.pen = some p) : MuOk G K c.S H pen n :=
  ⟨fun a nd e => ⟨(I.mu a nd e).1, (I.mu a nd e).2.1, fun p ep => ⟨fun z => (I.mu a nd e).2.2.2 (.inl ⟨p, hp p ep, .inl z⟩), fun z => (I.mu a nd e).2.2.2 (.inl ⟨p, hp p ep, .inr z⟩)⟩, fun q hq z => (I.mu a nd e).2.2.2 (.inr ⟨q, hq, z⟩)⟩, I.mz⟩
theorem call_core {c : C} {σ : L2.St} {ρ : Env} {H : Hp} {n : Nt} {P : D → Nt → Prop} {PX : Exc → Nt → Prop} {Q : VK} {m : List SV → W D} {args : List SV} {vs : List V} {ps : Nat} (I : SI G X.K c σ H ρ n) (hl : args.length = ps) (r : ArgsOk X.K c.S H c.pen args vs)
    (q : callM m args n P PX) (hg : Gl1 G X c σ ρ H P Q) (hx : OKx G X Wx c σ ρ H PX) : spM G X.K X.mg ps m vs H Q (WE Wx σ) := by
  unfold callM at q
  by_cases hp : args.any (fun s => match s with | .pen => true | _ => false) = true
  · rw [if_pos hp] at q
    refine ⟨c.S, c.pen, args, n, P, PX, hl, I.dom, fun p e => ?_, fun q e => ⟨(I.tabN e).1, (I.tab q e).2⟩, I.muOk c.pen fun _ h => h, r, q, fun d k v S' H' p h r => hg d k v S' H' p h.grow (I.called h (.inl rfl)) r, fun x k S' H' cls dd p h r => hx x k S' H' cls dd p h.grow (I.called h (.inl rfl)) r⟩
    obtain ⟨h1, h2, h3, _⟩ := I.pen p e
    exact ⟨h1, h2, h3⟩
  · rw [if_neg hp] at q
    have fix : ∀ {S' H' k}, After G X.K c.S S' none ⟨0, n.μ⟩ H H' k → After G X.K c.S S' none n H H' ⟨n.n, k.μ⟩ := fun h => ⟨h.grow, h.dom, h.new, h.fr, h.tab, (fun p e => nomatch e), h.mu, h.mu0, h.mz⟩
    exact ⟨c.S, none, args, ⟨0, n.μ⟩, _, _, hl, I.dom, fun p e => (nomatch e), fun q e => ⟨(I.tabN e).1, (I.tab q e).2⟩, I.muOk none (fun _ e => nomatch e), r.nopen (by simpa using hp), q, fun d k v S' H' p h r => hg d ⟨n.n, k.μ⟩ v S' H' p h.grow (I.called (fix h) (.inr ⟨rfl, rfl⟩)) r, fun x k S' H' cls dd p h r => hx x ⟨n.n, k.μ⟩ S' H' cls dd p h.grow (I.called (fix h) (.inr ⟨rfl, rfl⟩)) r⟩
def onB {α : Type} (b : Bool) (m : W α) : W α := match b with
  | true => m
  | false => stuck
def arity (n : Nat) (args : List SV) {α : Type} (m : W α) : W α := onB (Nat.beq args.length n) m
theorem arity_inv {n : Nat} {args : List SV} {α : Type} {m : W α} {k : Nt} {P : α → Nt → Prop} {PX : Exc → Nt → Prop} (h : arity n args m k P PX) : args.length = n ∧ m k P PX := by
  unfold arity at h
  cases e : Nat.beq args.length n with
  | true => rw [e] at h; exact ⟨Nat.eq_of_beq_eq_true e, h⟩
  | false => rw [e] at h; exact h.elim
/-- the callee runs -/
theorem run_G {k : Nat} {f : Addr} {fd : FuncData} {ps : List Str} {sp : Sp} {pins : List (Addr × Obj)} {σ : L2.St} {H : Hp} {s : Shared} {Q : VK} {a : Args} {us : List Value} {vs : List V} (F : FnG X.prog X.w X.K X.mg X.base k f fd ps sp) (hg : X.A.guards = some []) (hr : Room k X.A)
    (tk : Takes X Wx) (I : Inv X pins σ H s) (hb : BindsTo s fd a (ps.zip us)) (r : Vals vs us) (h : sp vs H Q (WE Wx σ)) : codeAny (model X.prog X.w) X.A (.call (.ref f) a) (fun r s' => match r with | .ok (.ret u) => EP X pins σ Q u s' | .ok _ => False | .error e => X.xe e s') s :=
  codeAny_mono (F.run X.A X.stack s H a us vs Q (WE Wx σ) hg hr I.env0 hb r h) fun r s' hq => by
    cases r with
    | error e => exact passAt tk σ pins H s e s' I hq
    | ok fl =>
      cases fl with
      | ret u => exact I.after hq
      | next => exact hq.elim
      | brk => exact hq.elim
      | cont => exact hq.elim
theorem run_call {k : Nat} {f : Addr} {fd : FuncData} {ps : List Str} {sp : Sp} {pins : List (Addr × Obj)} {σ : L2.St} {H : Hp} {s : Shared} {Q : VK} {us ws : List Value} {kw : List (Str × Value)} {vs : List V} (F : FnG X.prog X.w X.K X.mg X.base k f fd ps sp) (hg : X.A.guards = some []) (hr : Room k X.A)
    (tk : Takes X Wx) (I : Inv X pins σ H s) (hb : BindsTo s fd ⟨us, kw⟩ (ps.zip ws)) (r : Vals vs ws) (h : sp vs H Q (WE Wx σ)) : wpAny (model X.prog X.w) X.A (call (.ref f) us kw) (EP X pins σ Q) X.xe s :=
  wpAny_call (codeAny_mono (run_G F hg hr tk I hb r h) fun r s' hq => by
    cases r with
    | error e => exact hq
    | ok fl => cases fl <;> exact hq)
/-- what a def is known by: its address, promise, how arguments come to its parameters -/
structure Kn (G : PenK) (X : Cx) (k : Nat) (x : Str) (f : Addr) (fd : FuncData) (ps : List Str) (m : List SV → W D) : Prop where
  F : FnG X.prog X.w X.K X.mg X.base k f fd ps (spM G X.K X.mg ps.length m)
  mg : X.mg x = some (.ref f)
  kp : PySem.W.keepIn X.K (.ref f) = true
/-- f(a, b) -/
theorem e_call {k : Nat} {x : Str} {f : Addr} {fd : FuncData} {ps : List Str} {m : List SV → W D} {p pos : Pos} {e : Expr} {es : List Expr} {gs : Env → W (List SV)} (n : Kn G X k x f fd ps m) (hgd : X.A.guards = some []) (hr : Room k X.A) (tk : Takes X Wx) (hb : Binds X.K fd ps []) (ha : AV G X Wx (e :: es) gs)
    (hg : Gl X x := by rfl) (hdb : (x == ("__debug__" : Str)) = false := by decide) (he : starEach (e :: es) X.env = (false, eval e X.env) :: starEach es X.env := by rfl) (hpl : (backTo pos (starEach es X.env)).any (·.1) = false := by rfl) :
    E G X Wx (.Call (.Name x p) (e :: es) [] pos) (fun ρ => bnd (gs ρ) fun args => arity ps.length args (callM m args)) :=
  ⟨fun pins s σ H Q I ⟨c, ρ, k0, P, PX, I', q, hgl, hx⟩ => by
    refine wpAny_Call_Name_kw (ld_glob I hg n.mg ?_ hdb)
    refine PySem.W.callWith_K (h₀ := X.base) I.ok.mod.kin n.kp (thn (ha.run pos pins s σ H (fun vs H' => vs.length = ps.length ∧ spM G X.K X.mg ps.length m vs H' Q (WE Wx σ)) I ⟨c, ρ, k0, fun args k => arity ps.length args (callM m args) k P PX, PX, I', q, fun args k vs S' H' p g I2 r =>
      ⟨r.len.trans (arity_inv p).1, call_core I2 (arity_inv p).1 r (arity_inv p).2 (hgl.grow g) (hx.grow g)⟩, hx⟩) fun us s1 ⟨vs, H1, I1, r1, q1, q2⟩ => ⟨I1.kIn, ?_⟩) he hpl
    have hb1 := hb s1 us I1.kIn (by rw [List.append_nil, ← r1.length]; exact q1)
    rw [List.append_nil] at hb1
    exact run_call n.F hgd hr tk I1 hb1 r1 q2⟩
/-- how a call by names puts the values: for each parameter the place of its value among those given -/
def pick {α : Type} (order : List Nat) (l : List α) : List α := order.filterMap fun i => l[i]?
theorem pick_vals {order : List Nat} {vs : List V} {us : List Value} (r : Vals vs us) : Vals (pick order vs) (pick order us) := by
  unfold pick
  induction order with
  | nil => exact .nil
  | cons i o ih =>
    rw [List.filterMap_cons, List.filterMap_cons]
    cases e : vs[i]? with
    | none =>
      have e2 : us[i]? = none := r.none_of e
      rw [e2]
      exact ih
    | some v =>
      obtain ⟨u, e2, q⟩ := r.get e
      rw [e2]
      exact .cons q ih
theorem pick_args {K : PySem.W.Frag} {S : Addr → Prop} {H : Hp} {pen : Option (Addr × Addr)} {order : List Nat} {xs : List SV} {vs : List V} (r : ArgsOk K S H pen xs vs) : ArgsOk K S H pen (pick order xs) (pick order vs) := by
  unfold pick
  induction order with
  | nil => exact rfl
  | cons i o ih =>
    rw [List.filterMap_cons, List.filterMap_cons]
    cases e : xs[i]? with
    | none =>
      have e2 : vs[i]? = none := List.getElem?_eq_none (by rw [r.len]; exact List.getElem?_eq_none_iff.mp e)
      rw [e2]
      exact ih
    | some x =>
      obtain ⟨v, e2, q⟩ := r.get e
      rw [e2]
      exact ⟨v, _, rfl, q, ih⟩
def KBd (K : PySem.W.Frag) (fd : FuncData) (ps : List Str) (n : Nat) (ks : List Str) (order : List Nat) : Prop :=
  ∀ (s : Shared) (us ws : List Value), K.In s.heap → us.length = n → ws.length = ks.length → BindsTo s fd ⟨us, ks.zip ws⟩ (ps.zip (pick order (us ++ ws)))
/-- f(k = v, ..) -/
theorem e_callK0 {k : Nat} {x : Str} {f : Addr} {fd : FuncData} {ps ks : List Str} {order : List Nat} {m : List SV → W D} {p pos : Pos} {kws : List Keyword} {gs : Env → W (List SV)} (n : Kn G X k x f fd ps m) (hgd : X.A.guards = some []) (hr : Room k X.A) (tk : Takes X Wx) (hb : KBd X.K fd ps 0 ks order) (ha : KV G X Wx kws gs)
    (hall : (backToKw pos (keywordEach kws X.env)).all (·.1.isSome) = true := by rfl) (hks : (backToKw pos (keywordEach kws X.env)).filterMap (·.1) = ks := by rfl) (hg : Gl X x := by rfl) (hdb : (x == ("__debug__" : Str)) = false := by decide)
    (hpl : ((backTo pos (starEach [] X.env)).any (·.1) || (backToKw pos (keywordEach kws X.env)).any (·.1.isNone)) = false := by rfl) :
    E G X Wx (.Call (.Name x p) [] kws pos) (fun ρ => bnd (gs ρ) fun args => arity ks.length args (arity ps.length (pick order args) (callM m (pick order args)))) :=
  ⟨fun pins s σ H Q I ⟨c, ρ, k0, P, PX, I', q, hgl, hx⟩ => by
    refine wpAny_Call_Name_kw (ld_glob I hg n.mg ?_ hdb)
    refine PySem.W.callWith_KW0 (h₀ := X.base) I.ok.mod.kin n.kp hall (thn (ha.run pos pins s σ H (fun vs H' => vs.length = ks.length ∧ spM G X.K X.mg ps.length m (pick order vs) H' Q (WE Wx σ)) I ⟨c, ρ, k0, fun args k => arity ks.length args (arity ps.length (pick order args) (callM m (pick order args))) k P PX, PX, I', q, fun args k vs S' H' p g I2 r =>
      ⟨r.len.trans (arity_inv p).1, call_core I2 (arity_inv (arity_inv p).2).1 (pick_args r) (arity_inv (arity_inv p).2).2 (hgl.grow g) (hx.grow g)⟩, hx⟩) fun us s1 ⟨vs, H1, I1, r1, q1, q2⟩ => ⟨I1.kIn, ?_⟩) hpl
    rw [hks]
    exact run_call n.F hgd hr tk I1 (hb s1 [] us I1.kIn rfl (by rw [← r1.length]; exact q1)) (pick_vals r1) q2⟩
end
end PL

/-! The layer: built-ins over data. -/
namespace PL
open PySem PySem.Spec L2

/-! ### kinds -/
inductive Ty where
  | int | bool | str | tup | lst | dic
  deriving DecidableEq
def Ty.nm : Ty → String
  | .int => "int" | .bool => "bool" | .str => "str" | .tup => "tuple" | .lst => "list" | .dic => "dict"
def D.ty : D → String
  | .non => "NoneType" | .bl _ => "bool" | .int _ => "int" | .str _ => "str" | .lst _ => "list" | .tup _ => "tuple" | .dic _ => "dict" | .ins _ _ _ => "object"
def isT : Ty → D → Bool
  | .int, .int _ => true
  | .int, .bl _ => true
  | .bool, .bl _ => true
  | .str, .str _ => true
  | .tup, .tup _ => true
  | .lst, .lst _ => true
  | .dic, .dic _ => true
  | _, _ => false
/-- what isinstance finds for each built-in class -/
def KitD (K : PySem.W.Frag) (cls : Value) (d : D) : Prop := ∀ t : Ty, PySem.W.kitOne K cls (.type t.nm) = some (isT t d)
theorem kit_D {K : PySem.W.Frag} (d : D) (hd : d.ty ≠ "object") : KitD K (.type d.ty) d := by
  intro t
  cases d <;> first | exact absurd rfl hd | (cases t <;> refine kit_ty ?_ <;> simp only [D.ty, Ty.nm, isT] <;> decide +kernel)
theorem kit_I {K : PySem.W.Frag} {c f : Str} {C : Addr} {x : D} (i : InsC K c f C) : KitD K (.ref C) (.ins c f x) := by
  intro t
  cases t <;> exact i.kit _ (by decide)
section
variable {G : PenK} {X : Cx} {Wx : WX}
theorem Rep.tyX {K : PySem.W.Frag} {S : Addr → Prop} {H : Hp} {d : D} {v : V} (r : Rep K S H d v) : ∃ cls, TyX K H v cls ∧ KitD K cls d := by
  cases d with
  | non => cases r; exact ⟨_, .base .non, kit_D .non (by simp [D.ty])⟩
  | bl b => cases r; exact ⟨_, .base (.bl b), kit_D (.bl b) (by simp [D.ty])⟩
  | int i => cases r; exact ⟨_, .base (.int i), kit_D (.int i) (by simp [D.ty])⟩
  | str x => obtain ⟨rfl, _⟩ := r; exact ⟨_, .base (.str x), kit_D (.str x) (by simp [D.ty])⟩
  | lst xs => obtain ⟨a, vs, rfl, r1, _⟩ := r; exact ⟨_, .base (.lst r1.2), kit_D (.lst xs) (by simp [D.ty])⟩
  | tup xs =>
    obtain ⟨a, vs, rfl, r1, _⟩ := r
    rcases r1 with ⟨_, o, h, _⟩ | ⟨o, its, n, h1, h2, _⟩
    · exact ⟨_, .fTuple h, kit_D (.tup xs) (by simp [D.ty])⟩
    · exact ⟨_, .kTuple h1 h2, kit_D (.tup xs) (by simp [D.ty])⟩
  | dic kvs =>
    obtain ⟨a, vs, rfl, r1, _⟩ := r
    rcases r1.2 with h | ⟨o, h⟩
    · exact ⟨_, .base (.dK h), kit_D (.dic kvs) (by simp [D.ty])⟩
    · exact ⟨_, .fDict h, kit_D (.dic kvs) (by simp [D.ty])⟩
  | ins cn f x =>
    obtain ⟨a, C, dx, w, rfl, i, ⟨_, ha⟩, _⟩ := r
    exact ⟨_, .base (.ins ha i.cls i.ca i.cn i.ct i.cm), kit_I i⟩
theorem two_a {e e2 : Expr} {te : TE} {t2 : TE} (h : PE X e te) (h2 : PE X e2 t2) (hp : starEach [e, e2] X.env = (false, eval e X.env) :: starEach [e2] X.env := by rfl) (hp2 : starEach [e2] X.env = (false, eval e2 X.env) :: starEach [] X.env := by rfl) :
    PA X [e, e2] (tCons te (tCons t2 tNil)) := pa_cons h (pa_cons h2 pa_nil hp2) hp
/-- isinstance(e, T) -/
theorem e_isi {x : Str} {p px pos : Pos} {e : Expr} {g : Env → W D} (t : Ty) (hm : X.mg "isinstance" = none) (hmx : X.mg x = none) (hbx : bootBuiltins x = some (.type t.nm)) (h : E G X Wx e g)
    (hg : Gl X "isinstance" := by rfl) (hgx : Gl X x := by rfl) (hn : x ≠ "__name__" := by decide) (hdb : (x == ("__debug__" : Str)) = false := by decide) (he : starEach [e, .Name x px] X.env = (false, eval e X.env) :: starEach [.Name x px] X.env := by rfl)
    (he2 : starEach [.Name x px] X.env = (false, eval (.Name x px) X.env) :: starEach [] X.env := by rfl) (hpl : (backTo pos (starEach [.Name x px] X.env)).any (·.1) = false := by rfl) :
    E G X Wx (.Call (.Name "isinstance" p) [e, .Name x px] [] pos) (fun ρ => bnd (g ρ) fun d => ret (.bl (isT t d))) :=
  weakE (pe_callB call_isi hg hm PyProof.Rows.boot_isinstance (two_a h (pe_bltn (v := .ty t.nm) hgx hmx hbx rfl hn hdb) he he2) (by decide) (by decide) he hpl) fun σ H Q ⟨c, ρ, n, P, PX, I, q, hg, hx⟩ => tE.bnd I q hx fun d k u S' H' p g I' hx' r =>
    let ⟨_, h1, h2⟩ := r.tyX
    ⟨u, .ty t.nm, _, _, isT t d, rfl, .ty _, h1, h2 t, hg (.bl (isT t d)) k _ S' H' p g I' rfl⟩
/-! ### one argument -/
theorem e_b1 {x : Str} {p pos : Pos} {id : String} {e : Expr} {r : V → Hp → VK → Prop} {r' : List V → Hp → VK → Prop} {g : Env → W D} {f : D → W D} (hm : X.mg x = none) (hv : bootBuiltins x = some (.builtin id)) (o : CallR X (.builtin id) r') (v : V1 G X Wx f r) (hr : ∀ x H Q, r x H Q → r' [x] H Q) (h : E G X Wx e g)
    (hg : Gl X x) (hn : x ≠ "__name__") (hdb : (x == ("__debug__" : Str)) = false) (he : starEach [e] X.env = (false, eval e X.env) :: starEach [] X.env) (hpl : (backTo pos (starEach [] X.env)).any (·.1) = false) : E G X Wx (.Call (.Name x p) [e] [] pos) (fun ρ => bnd (g ρ) f) :=
  e_callB hm hv o (va_one v hr) (a_cons h a_nil he) hg hn hdb he hpl
theorem e_t1 {x : Str} {p pos : Pos} {T : String} {e : Expr} {r : V → Hp → VK → Prop} {r' : List V → Hp → VK → Prop} {g : Env → W D} {f : D → W D} (hm : X.mg x = none) (hv : bootBuiltins x = some (.type T)) (o : CallR X (.type T) r') (v : V1 G X Wx f r) (hr : ∀ x H Q, r x H Q → r' [x] H Q) (h : E G X Wx e g)
    (hg : Gl X x) (hn : x ≠ "__name__") (hdb : (x == ("__debug__" : Str)) = false) (he : starEach [e] X.env = (false, eval e X.env) :: starEach [] X.env) (hpl : (backTo pos (starEach [] X.env)).any (·.1) = false) : E G X Wx (.Call (.Name x p) [e] [] pos) (fun ρ => bnd (g ρ) f) :=
  e_callT hm hv o (va_one v hr) (a_cons h a_nil he) hg hn hdb he hpl
def V1O (G : PenK) (X : Cx) (Wx : WX) (h : D → W (List D)) (r : V → Hp → VK → Prop) : Prop :=
  ∀ c σ ρ H n P PX d v Q, SI G X.K c σ H ρ n → Rep X.K c.S H d v → h d n P PX → GlO G X c σ ρ H P Q → OKx G X Wx c σ ρ H PX → r v H Q
theorem o_t1 {x : Str} {p pos : Pos} {T : String} {e : Expr} {r : V → Hp → VK → Prop} {r' : List V → Hp → VK → Prop} {g : Env → W D} {f : D → W (List D)} (hm : X.mg x = none) (hv : bootBuiltins x = some (.type T)) (o : CallR X (.type T) r') (v : V1O G X Wx f r) (hr : ∀ x H Q, r x H Q → r' [x] H Q) (h : E G X Wx e g)
    (hg : Gl X x) (hn : x ≠ "__name__") (hdb : (x == ("__debug__" : Str)) = false) (he : starEach [e] X.env = (false, eval e X.env) :: starEach [] X.env) (hpl : (backTo pos (starEach [] X.env)).any (·.1) = false) : EO G X Wx (.Call (.Name x p) [e] [] pos) (fun ρ => bnd (g ρ) f) :=
  weakE (pe_callTy o hg hm hv (a_cons h a_nil he) hn hdb he hpl) fun σ H Q ⟨c, ρ, n, P, PX, I, q, hg, hx⟩ => tAr.bnd (f := fun ds => match ds with | [d] => f d | _ => stuck) I q hx fun ds k vs S' H' p g I' hx' rs => by
    cases ds with
    | nil => exact p.elim
    | cons d ds =>
      cases ds with
      | cons _ _ => exact p.elim
      | nil =>
        obtain ⟨u, rfl, r1⟩ := rs.one_inv
        exact hr u H' Q (v _ σ ρ H' k P PX d u Q I' r1 p (hg.grow g) hx')
theorem e_len' {p pos : Pos} {e : Expr} {g : Env → W D} (hm : X.mg "len" = none) (h : E G X Wx e g) (hg : Gl X "len" := by rfl) (he : starEach [e] X.env = (false, eval e X.env) :: starEach [] X.env := by rfl) :
    E G X Wx (.Call (.Name "len" p) [e] [] pos) (fun ρ => bnd (g ρ) lenD) := e_len hm h hg he
def tupD : D → W D
  | .lst xs => ret (.tup xs)
  | .tup xs => ret (.tup xs)
  | _ => stuck
/-- tuple(e) -/
theorem e_tuple {p pos : Pos} {e : Expr} {g : Env → W D} (hm : X.mg "tuple" = none) (h : E G X Wx e g) (hg : Gl X "tuple" := by rfl) (he : starEach [e] X.env = (false, eval e X.env) :: starEach [] X.env := by rfl) :
    E G X Wx (.Call (.Name "tuple" p) [e] [] pos) (fun ρ => bnd (g ρ) tupD) :=
  e_t1 hm PyProof.Rows.boot_tuple call_tupleZ (r := fun x H Q => ∃ p ys, x = .ref p ∧ ((SqL X.K H p ys ∧ NewT H ys Q) ∨ (SqT X.K H p ys ∧ Q (.ref p) H))) (by
    intro c σ ρ H n P PX d v Q I r q hg hx
    cases d with
    | lst xs => obtain ⟨a, vs, rfl, r1, z, q1⟩ := r; exact ⟨a, vs, rfl, .inl ⟨r1.sq, fun l o hl hd => hg.new q I hl fun g2 => ⟨l, vs, rfl, .inl ⟨.inr rfl, o, upd_same, hd⟩, z, Reps.grow g2 _ _ q1⟩⟩⟩
    | tup xs => obtain ⟨a, vs, rfl, r1, z, q1⟩ := id r; exact ⟨a, vs, rfl, .inr ⟨r1.sq, hg.at q I r⟩⟩
    | _ => exact q.elim) (fun x H Q ⟨p, ys, e, h⟩ => ⟨p, ys, by rw [e], h⟩) h hg (by decide) (by decide) he (by rfl)
def intD : D → W D
  | .int i => ret (.int i)
  | .bl b => ret (.int (if b then 1 else 0))
  | _ => stuck
theorem e_toint {p pos : Pos} {e : Expr} {g : Env → W D} (hm : X.mg "int" = none) (h : E G X Wx e g) (hg : Gl X "int" := by rfl) (he : starEach [e] X.env = (false, eval e X.env) :: starEach [] X.env := by rfl) :
    E G X Wx (.Call (.Name "int" p) [e] [] pos) (fun ρ => bnd (g ρ) intD) :=
  e_t1 hm PyProof.Rows.boot_int call_int1 (r := fun x H Q => (∃ i, x = .int i ∧ Q (.int i) H) ∨ ∃ k, x = .bl k ∧ Q (.int (if k then 1 else 0)) H) (by
    intro c σ ρ H n P PX d v Q I r q hg hx
    cases d with
    | int i => cases r; exact .inl ⟨i, rfl, hg.at (d := .int i) q I rfl⟩
    | bl b => cases r; exact .inr ⟨b, rfl, hg.at (d := .int (if b then 1 else 0)) q I rfl⟩
    | _ => exact q.elim) (fun x H Q h => h.elim (fun ⟨i, e, h⟩ => .inl ⟨i, by rw [e], h⟩) fun ⟨i, e, h⟩ => .inr ⟨i, by rw [e], h⟩) h hg (by decide) (by decide) he (by rfl)
def absD : D → W D
  | .int i => ret (.int (if i < 0 then -i else i))
  | _ => stuck
theorem e_abs {p pos : Pos} {e : Expr} {g : Env → W D} (hm : X.mg "abs" = none) (h : E G X Wx e g) (hg : Gl X "abs" := by rfl) (he : starEach [e] X.env = (false, eval e X.env) :: starEach [] X.env := by rfl) :
    E G X Wx (.Call (.Name "abs" p) [e] [] pos) (fun ρ => bnd (g ρ) absD) :=
  e_b1 hm PyProof.Rows.boot_abs call_abs (r := fun x H Q => ∃ i, x = .int i ∧ Q (.int (if i < 0 then -i else i)) H) (by
    intro c σ ρ H n P PX d v Q I r q hg hx
    cases d with
    | int i => cases r; exact ⟨i, rfl, hg.at (d := .int (if i < 0 then -i else i)) q I rfl⟩
    | _ => exact q.elim) (fun x H Q ⟨i, e, h⟩ => ⟨i, by rw [e], h⟩) h hg (by decide) (by decide) he (by rfl)
def bls : List D → Option (List Bool)
  | [] => some []
  | .bl b :: xs => (bls xs).map (b :: ·)
  | _ :: _ => none
theorem bls_vals {K : PySem.W.Frag} {S : Addr → Prop} {H : Hp} : ∀ {xs : List D} {bs : List Bool} {vs : List V}, bls xs = some bs → Reps K S H xs vs → vs = bs.map V.bl
  | [], bs, vs, h, r => by
    cases h
    exact r
  | x :: xs, bs, vs, h, r => by
    obtain ⟨v, ws, rfl, r1, r2⟩ := r
    cases x with
    | bl b =>
      obtain ⟨cs, e1, e2⟩ := Option.map_eq_some_iff.mp h
      cases e2
      cases r1
      rw [bls_vals e1 r2]
      rfl
    | _ => cases h
def allD : D → W D
  | .lst xs => match bls xs with
    | some bs => ret (.bl (bs.all id))
    | none => stuck
  | _ => stuck
theorem e_all {p pos : Pos} {e : Expr} {g : Env → W D} (hc : X.calm = true) (hm : X.mg "all" = none) (h : E G X Wx e g) (hg : Gl X "all" := by rfl) (he : starEach [e] X.env = (false, eval e X.env) :: starEach [] X.env := by rfl) :
    E G X Wx (.Call (.Name "all" p) [e] [] pos) (fun ρ => bnd (g ρ) allD) :=
  e_b1 hm PyProof.Rows.boot_all (cr_all hc) (r := fun x H Q => ∃ a bs, x = V.ref a ∧ SqL X.K H a (bs.map V.bl) ∧ Q (.bl (bs.all id)) H) (by
    intro c σ ρ H n P PX d v Q I r q hg hx
    cases d with
    | lst xs =>
      obtain ⟨a, vs, rfl, r1, z, q1⟩ := r
      have q : (match bls xs with | some bs => ret (.bl (bs.all id)) | none => stuck : W D) n P PX := q
      cases e : bls xs with
      | none => rw [e] at q; exact q.elim
      | some bs =>
        rw [e] at q
        have e2 := bls_vals e q1
        rw [e2] at r1
        exact ⟨a, bs, rfl, r1.sq, hg.at (d := .bl (bs.all id)) q I rfl⟩
    | _ => exact q.elim) (fun x H Q ⟨a, bs, e, h⟩ => ⟨a, bs, by rw [e], h⟩) h hg (by decide) (by decide) he (by rfl)
/-! ### in -/
/-- one sign in a text -/
def inStr (neg : Bool) (x y : D) : W D := match x, y with
  | .str a, .str b => match a.cps.toList with
    | [k] => ret (.bl (if neg then !decide (k ∈ b.cps.toList) else decide (k ∈ b.cps.toList)))
    | _ => stuck
  | _, _ => stuck
theorem one_sign {a : Str} {k : Nat} (h : a.cps.toList = [k]) : a = ⟨#[k]⟩ := by
  cases a with
  | mk c =>
    have : c = #[k] := by
      apply Array.toList_inj.mp
      exact h
    rw [this]
theorem inStr_inv {neg : Bool} {x y : D} {n : Nt} {P : D → Nt → Prop} {PX : Exc → Nt → Prop} (h : inStr neg x y n P PX) : ∃ k b, x = .str ⟨#[k]⟩ ∧ y = .str b ∧ P (.bl (if neg then !decide (k ∈ b.cps.toList) else decide (k ∈ b.cps.toList))) n := by
  cases x with
  | str a =>
    cases y with
    | str b =>
      have h : (match a.cps.toList with | [k] => ret (.bl (if neg then !decide (k ∈ b.cps.toList) else decide (k ∈ b.cps.toList))) | _ => stuck : W D) n P PX := h
      generalize e : a.cps.toList = l at h
      match l, h with
      | [k], h => exact ⟨k, b, by rw [one_sign e], rfl, h⟩
      | [], h => exact h.elim
      | _ :: _ :: _, h => exact h.elim
    | _ => exact h.elim
  | _ => exact h.elim
theorem cm_inS : Cm G X Wx .In (inStr false) := ⟨_, op_in_sign, by
  intro c σ ρ H n P PX d e v w Q I rd re q hg hx
  obtain ⟨k, b, rfl, rfl, q⟩ := inStr_inv q
  obtain ⟨rfl, _⟩ := rd
  obtain ⟨rfl, _⟩ := re
  exact ⟨k, b, rfl, rfl, hg.at (d := .bl _) q I rfl⟩⟩
theorem cm_notinS : Cm G X Wx .NotIn (inStr true) := ⟨_, op_notIn_sign, by
  intro c σ ρ H n P PX d e v w Q I rd re q hg hx
  obtain ⟨k, b, rfl, rfl, q⟩ := inStr_inv q
  obtain ⟨rfl, _⟩ := rd
  obtain ⟨rfl, _⟩ := re
  exact ⟨k, b, rfl, rfl, hg.at (d := .bl _) q I rfl⟩⟩
/-! ### join -/
def txts : List D → Option (List Str)
  | [] => some []
  | .str b :: xs => (txts xs).map (b :: ·)
  | _ :: _ => none
theorem txts_vals {K : PySem.W.Frag} {S : Addr → Prop} {H : Hp} : ∀ {xs : List D} {bs : List Str} {vs : List V}, txts xs = some bs → Reps K S H xs vs → vs = bs.map V.str
  | [], bs, vs, h, r => by
    cases h
    exact r
  | x :: xs, bs, vs, h, r => by
    obtain ⟨v, ws, rfl, r1, r2⟩ := r
    cases x with
    | str b =>
      obtain ⟨cs, e1, e2⟩ := Option.map_eq_some_iff.mp h
      cases e2
      obtain ⟨rfl, _⟩ := r1
      rw [txts_vals e1 r2]
      rfl
    | _ => cases h
def joinW (a : Str) (xs : List D) : W D := match txts xs with
  | some ys => grd ((ys.map (·.length)).sum + ys.length * a.length ≤ 16777216 ∧ (Txt.join a ys).length ≤ sizeLine) (ret (.str (Txt.join a ys)))
  | none => stuck
def joinD (x y : D) : W D := match x, y with
  | .str a, .lst xs => joinW a xs
  | .str a, .tup xs => joinW a xs
  | _, _ => stuck
def onStr {α : Type} (x : D) (m : W α) : W α := match x with
  | .str _ => m
  | _ => stuck
theorem e_join {o e : Expr} {apos pos : Pos} {go ge : Env → W D} (ho : E G X Wx o go) (he : E G X Wx e ge) (hs : starEach [e] X.env = [(false, eval e X.env)] := by rfl) (hbase : attributeBase o "join" X.env (eval o X.env) = eval o X.env := by rfl) (hline : (apos.endLine == pos.line) = true := by rfl) :
    E G X Wx (.Call (.Attribute o "join" apos) [e] [] pos) (fun ρ => bnd (go ρ) fun x => onStr x (bnd (ge ρ) fun y => joinD x y)) :=
  weakE (pe_join ho he hs hbase hline) fun σ H Q ⟨c, ρ, n, P, PX, I, q, hg, hx⟩ => tE.bnd I q hx fun d k u S' H' p g I' hx' r => by
    cases d with
    | str a =>
      obtain ⟨rfl, hz⟩ := r
      refine ⟨⟨a, rfl⟩, tE.bnd I' p hx' fun d2 k2 u2 S2 H2 p2 g2 I2 hx2 r2 => ?_⟩
      have fin : ∀ xs vs b, joinW a xs k2 P PX → Reps X.K S2 H2 xs vs → (SqL X.K H2 b vs ∨ SqT X.K H2 b vs) → ∃ a_1 p, ∃ ys : List Str, V.str a = .str a_1 ∧ [V.ref b] = [.ref p] ∧ (SqL X.K H2 p (ys.map V.str) ∨ SqT X.K H2 p (ys.map V.str)) ∧
          (ys.map (·.length)).sum + ys.length * a_1.length ≤ 16777216 ∧ Q (.str (Txt.join a_1 ys)) H2 := fun xs vs b h1 h2 h3 => by
        unfold joinW at h1
        cases e : txts xs with
        | none => rw [e] at h1; exact h1.elim
        | some ys =>
          rw [e] at h1
          have e2 := txts_vals e h2
          rw [e2] at h3
          exact ⟨a, b, ys, rfl, rfl, h3, h1.1.1, (hg.grow (g.trans g2)).at (d := .str (Txt.join a ys)) h1.2 I2 ⟨rfl, h1.1.2⟩⟩
      cases d2 with
      | lst xs => obtain ⟨b, vs, rfl, r1, _, q1⟩ := r2; exact fin xs vs b p2 q1 (.inl r1.sq)
      | tup xs => obtain ⟨b, vs, rfl, r1, _, q1⟩ := r2; exact fin xs vs b p2 q1 (.inr r1.sq)
      | _ => exact p2.elim
    | _ => exact p.elim
end
end PL

/-! The layer: repr, dicts among the data too. -/
namespace PL
open PySem PySem.Spec L2

/-- data off the heap, no dict among it sys.modules -/
inductive RX (h : Heap) : Value → PyData → Prop where
  | none : RX h .none .none
  | bool (b : Bool) : RX h (.bool b) (.bool b)
  | int (i : Int) (t : Tok) : RX h (.int i t) (.int i)
  | str (x : Str) (t : Tok) : RX h (.str x t) (.str x)
  | list {a : Addr} {o : Obj} {vs : Array Value} {n : Nat} {xs : List PyData} : h.get? a = some o → o.cls = .type "list" → o.data = .seq vs n → Paired (RX h) vs.toList xs → RX h (.ref a) (.list xs)
  | tuple {a : Addr} {o : Obj} {vs : Array Value} {n : Nat} {xs : List PyData} : h.get? a = some o → o.cls = .type "tuple" → o.data = .seq vs n → Paired (RX h) vs.toList xs → RX h (.ref a) (.tuple xs)
  | dict {a : Addr} {o : Obj} {es : Array DictEntry} {n : Nat} {kvs : List (PyData × PyData)} : h.get? a = some o → o.cls = .type "dict" → o.data = .dict es n → (a == sysModules) = false →
      Paired (RX h) (es.toList.map (·.key)) (kvs.map (·.1)) → Paired (RX h) (es.toList.map (·.val)) (kvs.map (·.2)) → RX h (.ref a) (.dict kvs)

section
variable {h : Heap} {P : Program} {w : World}
mutual
theorem RX.reads : ∀ (d : PyData) {v : Value}, RX h v d → ∃ as, Reads h v d as
  | .none, _, .none => ⟨_, .none⟩
  | .bool _, _, .bool b => ⟨_, .bool b⟩
  | .int _, _, .int i t => ⟨_, .int i t⟩
  | .str _, _, .str x t => ⟨_, .str x t⟩
  | .list xs, _, .list h1 h2 h3 h4 => let ⟨_, q⟩ := RX.readsAll xs h4; ⟨_, .list h1 h2 h3 q⟩
  | .tuple xs, _, .tuple h1 h2 h3 h4 => let ⟨_, q⟩ := RX.readsAll xs h4; ⟨_, .tuple h1 h2 h3 q⟩
  | .dict kvs, _, .dict h1 h2 h3 _ h5 h6 => let ⟨⟨_, q⟩, ⟨_, q2⟩⟩ := RX.readsKv kvs h5 h6; ⟨_, .dict h1 h2 h3 q q2⟩
theorem RX.readsAll : ∀ (ds : List PyData) {vs : List Value}, Paired (RX h) vs ds → ∃ as, ReadsAll h vs ds as
  | [], _, .nil => ⟨_, .nil⟩
  | d :: ds, _, .cons r t => let ⟨_, q⟩ := RX.reads d r; let ⟨_, q2⟩ := RX.readsAll ds t; ⟨_, .cons q q2⟩
theorem RX.readsKv : ∀ (ds : List (PyData × PyData)) {vs us : List Value}, Paired (RX h) vs (ds.map (·.1)) → Paired (RX h) us (ds.map (·.2)) → (∃ as, ReadsAll h vs (ds.map (·.1)) as) ∧ ∃ as, ReadsAll h us (ds.map (·.2)) as
  | [], _, _, .nil, .nil => ⟨⟨_, .nil⟩, _, .nil⟩
  | (a, b) :: ds, _, _, .cons r t, .cons r' t' =>
    let ⟨_, q⟩ := RX.reads a r
    let ⟨_, q'⟩ := RX.reads b r'
    let ⟨⟨_, q2⟩, ⟨_, q3⟩⟩ := RX.readsKv ds t t'
    ⟨⟨_, .cons q q2⟩, _, .cons q' q3⟩
end
/-- the text's length stays within the line -/
def Fit (d : PyData) : Prop := d.showable = true ∧ d.shown.length ≤ sizeLine
theorem Fit.list {xs : List PyData} (f : Fit (.list xs)) : ∀ x ∈ xs, Fit x := by
  obtain ⟨h1, h2⟩ := f
  have e : (listText (PyData.shownAll xs)).length ≤ sizeLine := by simpa only [PyData.shown] using h2
  have a1 : PyData.showableAll xs = true := by simpa [PyData.showable] using h1
  clear h1 h2
  have key : ∀ t ∈ PyData.shownAll xs, t.length ≤ sizeLine := fun t ht => Nat.le_trans (listText_mem_le ht) e
  clear e
  induction xs with
  | nil => exact fun x hx => nomatch hx
  | cons y ys ih =>
    rw [PyData.showableAll, Bool.and_eq_true] at a1
    intro x hx
    rcases List.mem_cons.mp hx with rfl | hx
    · exact ⟨a1.1, key _ (by rw [PyData.shownAll]; exact List.mem_cons_self)⟩
    · exact ih a1.2 (fun t ht => key t (by rw [PyData.shownAll]; exact List.mem_cons_of_mem _ ht)) x hx
theorem Fit.tuple {xs : List PyData} (f : Fit (.tuple xs)) : ∀ x ∈ xs, Fit x := by
  obtain ⟨h1, h2⟩ := f
  have e : (tupleText (PyData.shownAll xs)).length ≤ sizeLine := by simpa only [PyData.shown] using h2
  have a1 : PyData.showableAll xs = true := by simpa [PyData.showable] using h1
  clear h1 h2
  have key : ∀ t ∈ PyData.shownAll xs, t.length ≤ sizeLine := fun t ht => Nat.le_trans (tupleText_mem_le ht) e
  clear e
  induction xs with
  | nil => exact fun x hx => nomatch hx
  | cons y ys ih =>
    rw [PyData.showableAll, Bool.and_eq_true] at a1
    intro x hx
    rcases List.mem_cons.mp hx with rfl | hx
    · exact ⟨a1.1, key _ (by rw [PyData.shownAll]; exact List.mem_cons_self)⟩
    · exact ih a1.2 (fun t ht => key t (by rw [PyData.shownAll]; exact List.mem_cons_of_mem _ ht)) x hx
theorem Fit.dict {kvs : List (PyData × PyData)} (f : Fit (.dict kvs)) : (∀ x ∈ kvs, Fit x.1 ∧ Fit x.2) := by
  obtain ⟨h1, h2⟩ := f
  have e : (dictText (PyData.shownKv kvs)).length ≤ sizeLine := by simpa only [PyData.shown] using h2
  have a1 : PyData.showableKv kvs = true := by simpa [PyData.showable] using h1
  clear h1 h2
  have key : ∀ t ∈ PyData.shownKv kvs, t.length ≤ sizeLine := fun t ht => Nat.le_trans (dictText_mem_le ht) e
  clear e
  induction kvs with
  | nil => exact fun x hx => nomatch hx
  | cons y ys ih =>
    obtain ⟨a, b⟩ := y
    rw [PyData.showableKv, Bool.and_eq_true, Bool.and_eq_true] at a1
    intro x hx
    rcases List.mem_cons.mp hx with rfl | hx
    · have := key _ (by rw [PyData.shownKv]; exact List.mem_cons_self)
      rw [PySem.Str.length_append, PySem.Str.length_append] at this
      exact ⟨⟨a1.1.1, by show a.shown.length ≤ sizeLine; omega⟩, ⟨a1.1.2, by show b.shown.length ≤ sizeLine; omega⟩⟩
    · exact ih a1.2 (fun t ht => key t (by rw [PyData.shownKv]; exact List.mem_cons_of_mem _ ht)) x hx

mutual
theorem RX.shows : ∀ (d : PyData) {v : Value}, RX h v d → Fit d → ∃ bs, ReadAtMost h d.depth bs ∧ ReprK P w bs h d.depth v d.shown
  | .none, _, .none, _ => ⟨[], fun _ q => (nomatch q), by rw [PyData.shown]; exact .of_is ReprIs.none _ _ _⟩
  | .bool _, _, .bool b, _ => ⟨[], fun _ q => (nomatch q), by rw [PyData.shown]; exact .of_is (ReprIs.bool b) _ _ _⟩
  | .int _, _, .int i t, f => ⟨[], fun _ q => (nomatch q), by rw [PyData.shown]; exact .of_is (ReprIs.int t (by simpa [PyData.showable] using f.1)) _ _ _⟩
  | .str _, _, .str x t, f => ⟨[], fun _ q => (nomatch q), by rw [PyData.shown]; exact .of_is (ReprIs.str x t (by simpa only [PyData.shown] using f.2)) _ _ _⟩
  | .list xs, _, .list (a := a) (vs := vs) h1 h2 h3 h4, f => by
    obtain ⟨bs, hb, hk⟩ := RX.showsAll xs h4 f.list
    obtain ⟨as, r⟩ := RX.reads (.list xs) (.list h1 h2 h3 h4)
    have hn : a ∉ bs := not_mem_of_deeper r (by rw [PyData.depth]; omega) hb
    refine ⟨a :: bs, .cons r (by rw [PyData.depth]; omega) hb, ?_⟩
    rw [PyData.depth, PyData.shown]
    obtain ⟨l⟩ := vs
    cases l with
    | nil =>
      have h4 : Paired (RX h) [] xs := h4
      cases h4
      rw [PyData.shownAll, listText_nil]
      exact .listEmpty h1 h2 h3
    | cons y l => exact .list h1 h2 h3 hn (by simpa using hk.length_eq) fun i z e => hk.item i z (by simpa using e)
  | .tuple xs, _, .tuple (a := a) (vs := vs) h1 h2 h3 h4, f => by
    obtain ⟨bs, hb, hk⟩ := RX.showsAll xs h4 f.tuple
    obtain ⟨as, r⟩ := RX.reads (.tuple xs) (.tuple h1 h2 h3 h4)
    refine ⟨a :: bs, .cons r (by rw [PyData.depth]; omega) hb, ?_⟩
    rw [PyData.depth, PyData.shown]
    exact .tuple h1 h2 h3 (not_mem_of_deeper r (by rw [PyData.depth]; omega) hb) hk
  | .dict kvs, _, .dict (a := a) (es := es) h1 h2 h3 h4 h5 h6, f => by
    obtain ⟨b1, b2, hb1, k1, hb2, k2⟩ := RX.showsKv kvs h5 h6 f.dict
    obtain ⟨as, r⟩ := RX.reads (.dict kvs) (.dict h1 h2 h3 h4 h5 h6)
    have hb : ReadAtMost h (PyData.depthKv kvs) (b1 ++ b2) := .append hb1 hb2
    refine ⟨a :: (b1 ++ b2), .cons r (by rw [PyData.depth]; omega) hb, ?_⟩
    rw [PyData.depth, PyData.shown, PyData.shownKv_eq]
    exact .dict h1 h2 h3 h4 (not_mem_of_deeper r (by rw [PyData.depth]; omega) hb) (.of_two es.toList _ _ (k1.more_le (fun b q => List.mem_append_left _ q) (Nat.le_refl _)) (k2.more_le (fun b q => List.mem_append_right _ q) (Nat.le_refl _)))
theorem RX.showsAll : ∀ (ds : List PyData) {vs : List Value}, Paired (RX h) vs ds → (∀ d ∈ ds, Fit d) → ∃ bs, ReadAtMost h (PyData.depthAll ds) bs ∧ ReprAllK P w bs h (PyData.depthAll ds) vs (PyData.shownAll ds)
  | [], _, .nil, _ => ⟨[], fun _ q => (nomatch q), .nil⟩
  | d :: ds, _, .cons r t, f => by
    obtain ⟨b1, h1, k1⟩ := RX.shows d r (f d List.mem_cons_self)
    obtain ⟨b2, h2, k2⟩ := RX.showsAll ds t fun x q => f x (List.mem_cons_of_mem _ q)
    refine ⟨b1 ++ b2, ?_, ?_⟩
    · rw [PyData.depthAll]; exact .append (h1.mono (Nat.le_max_left _ _)) (h2.mono (Nat.le_max_right _ _))
    · rw [PyData.depthAll, PyData.shownAll]
      exact .cons ((k1.more fun b q => List.mem_append_left _ q).level_le (Nat.le_max_left _ _)) (k2.more_le (fun b q => List.mem_append_right _ q) (Nat.le_max_right _ _))
theorem RX.showsKv : ∀ (ds : List (PyData × PyData)) {vs us : List Value}, Paired (RX h) vs (ds.map (·.1)) → Paired (RX h) us (ds.map (·.2)) → (∀ d ∈ ds, Fit d.1 ∧ Fit d.2) →
    ∃ b1 b2, ReadAtMost h (PyData.depthKv ds) b1 ∧ ReprAllK P w b1 h (PyData.depthKv ds) vs (PyData.shownAll (ds.map (·.1))) ∧ ReadAtMost h (PyData.depthKv ds) b2 ∧ ReprAllK P w b2 h (PyData.depthKv ds) us (PyData.shownAll (ds.map (·.2)))
  | [], _, _, .nil, .nil, _ => ⟨[], [], fun _ q => (nomatch q), .nil, fun _ q => (nomatch q), .nil⟩
  | (x, y) :: ds, _, _, .cons r t, .cons r' t', f => by
    obtain ⟨a1, h1, k1⟩ := RX.shows x r (f _ List.mem_cons_self).1
    obtain ⟨a2, h2, k2⟩ := RX.shows y r' (f _ List.mem_cons_self).2
    obtain ⟨b1, b2, g1, j1, g2, j2⟩ := RX.showsKv ds t t' fun z q => f z (List.mem_cons_of_mem _ q)
    rw [PyData.depthKv, List.map_cons, List.map_cons, PyData.shownAll, PyData.shownAll]
    have m1 : PyData.depth x ≤ max (max (PyData.depth x) (PyData.depth y)) (PyData.depthKv ds) := by omega
    have m2 : PyData.depth y ≤ max (max (PyData.depth x) (PyData.depth y)) (PyData.depthKv ds) := by omega
    have m3 : PyData.depthKv ds ≤ max (max (PyData.depth x) (PyData.depth y)) (PyData.depthKv ds) := by omega
    exact ⟨a1 ++ b1, a2 ++ b2, .append (h1.mono m1) (g1.mono m3), .cons ((k1.more fun b q => List.mem_append_left _ q).level_le m1) (j1.more_le (fun b q => List.mem_append_right _ q) m3),
      .append (h2.mono m2) (g2.mono m3), .cons ((k2.more fun b q => List.mem_append_left _ q).level_le m2) (j2.more_le (fun b q => List.mem_append_right _ q) m3)⟩
end
/-- repr(x) -/
theorem RX.repr {d : PyData} {v : Value} {A : Around} {E : Value → Shared → Prop} {s : Shared} {Q : Value → Shared → Prop} (r : RX s.heap v d) (f : Fit d) (hg : A.guards = some []) (hu : A.units + (d.depth + 1) < cLine)
    (hQ : ∀ h' u tk, (∀ b o, s.heap.get? b = some o → h'.get? b = some o) → Q (.str d.shown u) { s with heap := h', toks := tk }) : wpAny (model P w) A (call (.builtin "repr") [v]) Q E s := by
  cases r with
  | none => exact PySem.P.repr_of_none (by have := hQ s.heap s.toks (s.toks + 1) (fun _ _ e => e); rwa [PyData.shown] at this)
  | bool b => exact PySem.P.repr_of_bool (by have := hQ s.heap s.toks (s.toks + 1) (fun _ _ e => e); rw [PyData.shown] at this; cases b <;> exact this)
  | int i t => exact PySem.P.repr_of_int (by simpa [PyData.showable] using f.1) (by have := hQ s.heap s.toks (s.toks + 1) (fun _ _ e => e); rwa [PyData.shown] at this)
  | str x t => exact PySem.P.repr_of_str (by have := hQ s.heap s.toks (s.toks + 1) (fun _ _ e => e); rwa [PyData.shown] at this) (by simpa only [PyData.shown] using f.2)
  | @list a o vs n xs h1 h2 h3 h4 =>
    obtain ⟨bs, hb, hk⟩ := RX.showsAll (P := P) (w := w) xs h4 f.list
    obtain ⟨as, r⟩ := RX.reads (.list xs) (.list h1 h2 h3 h4)
    have hn : a ∉ bs := not_mem_of_deeper r (by rw [PyData.depth]; omega) hb
    have hz : (listText (PyData.shownAll xs)).length ≤ sizeLine := by simpa only [PyData.shown] using f.2
    rw [PyData.depth] at hu
    rw [PyData.shown] at hQ
    refine call_repr_slot (by omega) (T := "list") ⟨o, h1, h2⟩ F.slot_list_repr.toG ?_
    obtain ⟨l⟩ := vs
    cases l with
    | nil =>
      have h4 : Paired (RX s.heap) [] xs := h4
      cases h4
      rw [PyData.shownAll, listText_nil] at hQ
      exact call_list_repr_empty ⟨o, h1, h2⟩ h1 h3 ⟨_, _, rfl, hQ s.heap _ _ fun _ _ e => e⟩
    | cons y l => exact call_list_reprK h1 h2 h3 hn (by simpa using hk.length_eq) (fun i z e => hk.item i z (by simpa using e)) hg (fun b _ => Clear.nil b) (by show A.units + 1 + _ < cLine; omega) (fun _ _ e => e) (fun h' u tk q => ⟨_, _, rfl, hQ h' u tk q⟩) hz
  | @tuple a o vs n xs h1 h2 h3 h4 =>
    obtain ⟨bs, hb, hk⟩ := RX.showsAll (P := P) (w := w) xs h4 f.tuple
    obtain ⟨as, r⟩ := RX.reads (.tuple xs) (.tuple h1 h2 h3 h4)
    have hn : a ∉ bs := not_mem_of_deeper r (by rw [PyData.depth]; omega) hb
    have hz : (tupleText (PyData.shownAll xs)).length ≤ sizeLine := by simpa only [PyData.shown] using f.2
    rw [PyData.depth] at hu
    rw [PyData.shown] at hQ
    exact call_repr_slot (by omega) (T := "tuple") ⟨o, h1, h2⟩ F.slot_tuple_repr (call_tuple_reprK h1 h2 h3 hn hk hg (fun b _ => Clear.nil b) (by show A.units + 1 + _ < cLine; omega) (fun _ _ e => e) (fun h' u tk q => ⟨_, _, rfl, hQ h' u tk q⟩) hz)
  | @dict a o es n kvs h1 h2 h3 h4 h5 h6 =>
    obtain ⟨b1, b2, hb1, k1, hb2, k2⟩ := RX.showsKv (P := P) (w := w) kvs h5 h6 f.dict
    obtain ⟨as, r⟩ := RX.reads (.dict kvs) (.dict h1 h2 h3 h4 h5 h6)
    have hb : ReadAtMost s.heap (PyData.depthKv kvs) (b1 ++ b2) := .append hb1 hb2
    have hz : (dictText (PyData.shownKv kvs)).length ≤ sizeLine := by simpa only [PyData.shown] using f.2
    rw [PyData.depth] at hu
    rw [PyData.shown, PyData.shownKv_eq] at hQ
    exact call_repr_slot (by omega) (T := "dict") ⟨o, h1, h2⟩ F.slot_dict_repr (call_dict_reprK h1 h2 h3 h4 (not_mem_of_deeper r (by rw [PyData.depth]; omega) hb)
      (.of_two es.toList _ _ (k1.more_le (fun b q => List.mem_append_left _ q) (Nat.le_refl _)) (k2.more_le (fun b q => List.mem_append_right _ q) (Nat.le_refl _))) hg (fun b _ => Clear.nil b) (by show A.units + 1 + _ < cLine; omega) (fun _ _ e => e) (fun h' u tk q => ⟨_, _, rfl, hQ h' u tk q⟩) (by rw [← PyData.shownKv_eq]; exact hz))
end

section
variable {X : Cx} {pins : List (Addr × Obj)} {σ : L2.St} {H : Hp} {s : Shared} {S : Addr → Prop}
theorem RX.int' {h : Heap} {v : Value} {i : Int} {t : Tok} (e : v = .int i t) : RX h v (.int i) := by rw [e]; exact .int i t
theorem RX.str' {h : Heap} {v : Value} {i : Str} {t : Tok} (e : v = .str i t) : RX h v (.str i) := by rw [e]; exact .str i t
theorem keys_rx {h : Heap} {K : PySem.W.Frag} : ∀ {kvs : List (Key × D)} {kws : List (Key × V)} {vs : List (Key × Value)} {es : List DictEntry}, RepK K S H kvs kws → L2.KV kws vs → Pairs (mixKind P w) es vs → Paired (RX h) (es.map (·.key)) ((pyk kvs).map (·.1))
  | [], _, _, _, r, k, p => by
    have e : _ = [] := r
    rw [e] at k
    cases k
    cases p
    exact .nil
  | (k, x) :: kvs, _, _, _, r, q, p => by
    obtain ⟨v, ws, rfl, _, r2⟩ := r
    cases q with
    | @cons _ b _ bs hk q =>
      cases p with
      | cons h1 h2 p =>
        have ih := keys_rx (h := h) r2 q p
        have e : k = b.1 := hk.1
        rw [← e] at h1
        rcases keyIs_shape h1 with ⟨i, t, e1, e2⟩ | ⟨y, t, e1, e2⟩
        · rw [e1]
          exact .cons (RX.int' e2) ih
        · rw [e1]
          exact .cons (RX.str' e2) ih
theorem ins_show {c f : Str} {x : D} : (py (.ins c f x)).showable = false := by
  unfold py PyData.showable PyData.showableKv PyData.showable
  have h : ¬ ((2 : Int) ^ 2000).natAbs.log2 < 1920 := by decide +kernel
  simp [h]
mutual
theorem Rep.rx (I : Inv X pins σ H s) : ∀ (d : D) (v : V) (u : Value), (py d).showable = true → Rep X.K S H d v → RelV v u → RX s.heap u (py d)
  | .non, v, u, _, r, q => by cases r; cases q; exact .none
  | .bl b, v, u, _, r, q => by cases r; cases q; exact .bool b
  | .int i, v, u, _, r, q => by cases r; obtain ⟨t, rfl⟩ := q; exact .int i t
  | .str x, v, u, _, r, q => by obtain ⟨rfl, _⟩ := r; obtain ⟨t, rfl⟩ := q; exact .str x t
  | .lst xs, v, u, hs, r, q => by
    obtain ⟨a, vs, rfl, r1, _, r2⟩ := r
    cases q
    obtain ⟨its, rv, ⟨⟨cls, dd, data, sl⟩, n, ho, hc, hdn, hdt⟩, _⟩ := I.list r1.sq
    exact .list ho hc hdt (Reps.rx I xs vs _ (by simpa [py, PyData.showable] using hs) r2 rv)
  | .tup xs, v, u, hs, r, q => by
    obtain ⟨a, vs, rfl, r1, _, r2⟩ := r
    cases q
    obtain ⟨its, rv, ⟨o, ho, hc, n, hdt⟩, _⟩ := I.tuple r1.sq
    exact .tuple ho hc hdt (Reps.rx I xs vs _ (by simpa [py, PyData.showable] using hs) r2 rv)
  | .ins c f x, v, u, hs, _, _ => absurd hs (by rw [ins_show]; exact Bool.false_ne_true)
  | .dic kvs, v, u, hsh, r, q => by
    obtain ⟨a, kws, rfl, ⟨_, r1⟩, r2⟩ := r
    cases q
    obtain ⟨_, hs, vs, kv, o, es, ep, ho, hx, hdt, _, hp, _⟩ : kws.length ≤ sizeLine ∧ (a == sysModules) = false ∧ ∃ vs, L2.KV kws vs ∧ s.heap.DictOf (mixKind X.prog X.w) a vs := dk_rd I.hok r1
    exact .dict ho hx.1 hdt hs (keys_rx r2 kv hp) (RepK.rx I kvs kws vs _ (by simpa [py, PyData.showable] using hsh) r2 kv hp)
theorem Reps.rx (I : Inv X pins σ H s) : ∀ (xs : List D) (vs : List V) (us : List Value), PyData.showableAll (pys xs) = true → Reps X.K S H xs vs → Vals vs us → Paired (RX s.heap) us (pys xs)
  | [], _, _, _, r, q => by
    have e : _ = [] := r
    rw [e] at q
    cases q
    exact .nil
  | x :: xs, _, _, hs, r, q => by
    obtain ⟨v, ws, rfl, r1, r2⟩ := r
    have hs : (py x).showable = true ∧ PyData.showableAll (pys xs) = true := by simpa [pys, PyData.showableAll] using hs
    cases q with
    | cons q1 q2 => exact .cons (Rep.rx I x v _ hs.1 r1 q1) (Reps.rx I xs ws _ hs.2 r2 q2)
theorem RepK.rx (I : Inv X pins σ H s) : ∀ (kvs : List (Key × D)) (kws : List (Key × V)) (vs : List (Key × Value)) (es : List DictEntry), PyData.showableKv (pyk kvs) = true → RepK X.K S H kvs kws → L2.KV kws vs → Pairs (mixKind X.prog X.w) es vs → Paired (RX s.heap) (es.map (·.val)) ((pyk kvs).map (·.2))
  | [], _, _, _, _, r, q, p => by
    have e : _ = [] := r
    rw [e] at q
    cases q
    cases p
    exact .nil
  | (k, x) :: kvs, _, _, _, hsh, r, q, p => by
    obtain ⟨v, ws, rfl, r1, r2⟩ := r
    have hsh2 : (py x).showable = true ∧ PyData.showableKv (pyk kvs) = true := by cases k <;> simp [pyk, PyData.showableKv] at hsh <;> exact ⟨by simp_all, by simp_all⟩
    cases q with
    | @cons _ b _ bs hk q =>
      cases p with
      | cons h1 h2 p =>
        have ih := RepK.rx I kvs ws bs _ hsh2.2 r2 q p
        have hd := Rep.rx I x v b.2 hsh2.1 r1 hk.2
        rw [← h2] at hd
        cases k with
        | inl i => exact .cons hd ih
        | inr i => exact .cons hd ih
end
end
/-- repr(e) -/
def reprD (d : D) : W D := grd ((py d).showable = true ∧ (py d).shown.length ≤ sizeLine ∧ (py d).depth ≤ 64) (ret (.str (py d).shown))
theorem e_repr {G : PenK} {X : Cx} {Wx : WX} {k : Nat} {p pos : Pos} {e : Expr} {g : Env → W D} (hm : X.mg "repr" = none) (hgd : X.A.guards = some []) (hr : Room k X.A) (h : E G X Wx e g) (hg : Gl X "repr" := by rfl) (he : starEach [e] X.env = (false, eval e X.env) :: starEach [] X.env := by rfl) (hpl : (backTo pos (starEach [] X.env)).any (·.1) = false := by rfl) :
    E G X Wx (.Call (.Name "repr" p) [e] [] pos) (fun ρ => bnd (g ρ) reprD) :=
  e_callB (r := fun vs H Q => ∃ (S : Addr → Prop) (d : D) (v : V), vs = [v] ∧ Rep X.K S H d v ∧ ((py d).showable = true ∧ (py d).shown.length ≤ sizeLine ∧ (py d).depth ≤ 64) ∧ Q (.str (py d).shown) H) hm PyProof.Rows.boot_repr
    (fun pins s σ H xs us Q I rv ⟨S, d, v, e1, r, ⟨h1, h2, h3⟩, q⟩ => by
      subst e1
      obtain ⟨u, rfl, ru⟩ := L2.vals1 rv
      exact RX.repr (Rep.rx I d v u h1 r ru) ⟨h1, h2⟩ hgd (by have := hr.un; omega) fun h' t tk hk => ⟨.str _, H, I.kept hk, ⟨t, rfl⟩, q⟩)
    (va_one (f := reprD) (r := fun v H Q => ∃ (S : Addr → Prop) (d : D), Rep X.K S H d v ∧ ((py d).showable = true ∧ (py d).shown.length ≤ sizeLine ∧ (py d).depth ≤ 64) ∧ Q (.str (py d).shown) H) (fun c σ ρ H n P PX d v Q I r ⟨h1, q⟩ hg hx => ⟨c.S, d, r, h1, hg.at (d := .str (py d).shown) q I ⟨rfl, h1.2.1⟩⟩)
      fun x H Q ⟨S, d, r, h1, q⟩ => ⟨S, d, x, rfl, r, h1, q⟩) (a_cons h a_nil he) hg (by decide) (by decide) he hpl
end PL

/-! The layer: the source of draws [cells, turn, rest], and a draw. -/
namespace PL
open PySem PySem.Spec L2

/-- the list of the cells, the turn, the rest; at most n draws so far -/
def penG : PenK where
  inv := fun H a b n => a ≠ b ∧ ∃ (cs : List Int) (t g : Int), H a = some (.lst [.ref b, .int t, .int g]) ∧ H b = some (.lst (cs.map V.int)) ∧ cs.length ≤ 63 ∧ 0 ≤ t ∧ t ≤ n ∧ 0 ≤ g
  dep := fun ⟨h0, cs, t, g, h1, h2, h3⟩ e1 e2 => ⟨h0, cs, t, g, e1.trans h1, e2.trans h2, h3⟩
  there := fun ⟨_, cs, t, g, h1, h2, _⟩ => ⟨(by rw [h1]; exact fun z => (nomatch z)), (by rw [h2]; exact fun z => (nomatch z))⟩
  isL := fun ⟨_, cs, t, g, h1, h2, _⟩ => ⟨⟨_, h1⟩, _, h2⟩
/-- .. with tables of code objects, the module's names -/
def PenK.wt (G : PenK) (T : List (Addr × Str)) (mg : Str → Option Value) : PenK := { G with tab := T, mg := mg }
def drawMax : Nat := 4000000
/-- any number below b -/
def drawB (b : Int) : W D := fun n P _ => n.n < drawMax ∧ 0 < b ∧ b < 1073741824 ∧ ∀ r k, 0 ≤ r → r < b → n.n ≤ k → k ≤ n.n + 1 → P (.int r) ⟨k, n.μ⟩
def drawM : List SV → W D
  | [.pen, .d (.int b)] => drawB b
  | _ => stuck

theorem drawM_inv {args : List SV} {n : Nt} {P : D → Nt → Prop} {PX : Exc → Nt → Prop} (h : drawM args n P PX) :
    ∃ b, args = [.pen, .d (.int b)] ∧ n.n < drawMax ∧ 0 < b ∧ b < 1073741824 ∧ ∀ r k, 0 ≤ r → r < b → n.n ≤ k → k ≤ n.n + 1 → P (.int r) ⟨k, n.μ⟩ := by
  unfold drawM at h
  split at h
  · exact ⟨_, rfl, h⟩
  · exact h.elim
theorem u64 {A : Around} {k : Nat} (r : Room k A) : A.units + 64 < cLine := by
  have := r.un
  omega
theorem rd_ix {K : PySem.W.Frag} {σ : L2.St} {H : Hp} {Q : VK} {a : Addr} {L : List V} {i : Nat} (j : Nat) {v : V} (e : σ[i]? = some (some (.ref a))) (h : H a = some (.lst L)) (hv : L[j]? = some v) (q : Q v H) : tOp (rIxL K) (tVar i) (tC (.int j)) σ H Q :=
  ⟨.ref a, e, a, L, j, v, rfl, rfl, SqL.of h, atI_nat hv, q⟩
theorem wr_ix {σ : L2.St} {H : Hp} {Q : L2.St → Hp → Prop} {a : Addr} {L : List V} {i : Nat} (j : Nat) {v : V} (e : σ[i]? = some (some (.ref a))) (h : H a = some (.lst L)) (hj : j < L.length) (q : Q σ (upd H a (.lst (L.set j v)))) : gSub (tVar i) (tC (.int j)) rSetL v σ H Q :=
  ⟨.ref a, e, a, L, j, j, rfl, rfl, h, by unfold ixN; rw [if_pos (by omega), if_pos (by omega)]; rfl, q⟩
theorem sq_le {t : Int} {n : Int} (h0 : 0 ≤ t) (h1 : t ≤ n) : t * t ≤ n * n := Int.mul_le_mul h1 h1 h0 (Int.le_trans h0 h1)
theorem eqv_nil {cs : List Int} : PyData.eqv (.list (cs.map PyData.int)) (.list []) = cs.isEmpty := by
  cases cs <;> simp [PyData.eqv, PyData.eqvAll]
theorem shaped_ints (cs : List Int) : SeqAt.shaped (.list (cs.map PyData.int)) = true := by
  have h1 : ∀ l : List Int, PyData.canLayAll0 (l.map PyData.int) = true := fun l => by
    induction l with
    | nil => simp [PyData.canLayAll0]
    | cons x l ih => simp [PyData.canLayAll0, PyData.canLay0, ih]
  have h2 : ∀ l : List Int, PyData.depthAll (l.map PyData.int) = 0 := fun l => by
    induction l with
    | nil => simp [PyData.depthAll]
    | cons x l ih => simp [PyData.depthAll, PyData.depth, ih]
  simp [SeqAt.shaped, PyData.canLay0, PyData.depth, h1 cs, h2 cs]
theorem dp_ints {K : PySem.W.Frag} {H : Hp} : ∀ cs : List Int, DpAll K H (cs.map V.int) (cs.map PyData.int)
  | [] => .nil
  | c :: cs => .cons (.int c) (dp_ints cs)
theorem tab_eq {S : Addr → Prop} {H H2 : Hp} {a P : Addr} {q : Str} (sm : ∀ x o, x ≠ a → H x = some o → H2 x = some o) (t : TabI S H P q) (haL : ∃ xs, H a = some (.lst xs)) : H2 P = H P := by
  obtain ⟨ps, h1, _⟩ := t
  obtain ⟨xs, h2⟩ := haL
  rw [h1]
  exact sm P _ (fun z => by rw [z, h2] at h1; cases h1) h1
/-- the state of the source behind a change of its list alone -/
theorem After.draw {S : Addr → Prop} {H H2 : Hp} {a b : Addr} {cs : List Int} {t g : Int} {k : Nat} (hne : a ≠ b) (dom : ∀ x, S x → H x ≠ none) (ha : H a ≠ none) (nSa : ¬ S a) (nSb : ¬ S b) (hb : H b = some (.lst (cs.map V.int))) {T : List (Addr × Str)} {mg : Str → Option Value} (htb : ∀ q ∈ T, ¬ S q.1 ∧ TabI S H q.1 q.2) (haL : ∃ xs, H a = some (.lst xs)) {K : PySem.W.Frag} {n : Nt} (hm : MuOk (penG.wt T mg) K S H (some (a, b)) n)
    (sm : ∀ x o, x ≠ a → H x = some o → H2 x = some o) (h2 : H2 a = some (.lst [.ref b, .int t, .int g])) (h3 : cs.length ≤ 63) (ht : 0 ≤ t) (hk : t ≤ k) (hg : 0 ≤ g) : After (penG.wt T mg) K S S (some (a, b)) n H H2 ⟨k, n.μ⟩ := by
  have eqS : ∀ x, S x → H2 x = H x := fun x hx => by
    cases e : H x with
    | none => exact absurd e (dom x hx)
    | some o => exact sm x o (fun z => nSa (z ▸ hx)) e
  refine ⟨⟨fun _ h => h, eqS⟩, fun x hx => by rw [eqS x hx]; exact dom x hx, fun x hx => .inl hx, fun x o e hp _ _ => sm x o (hp (a, b) rfl).1 e, fun q hq => TabI.grow ⟨fun _ h => h, eqS⟩ (tab_eq sm (htb q hq).2 haL) (htb q hq).2, fun p e => ?_, fun x nd e => ?_, fun _ h => h, hm.2⟩
  · cases e
    exact ⟨⟨hne, cs, t, g, h2, sm b _ (Ne.symm hne) hb, h3, ht, hk, hg⟩, nSa, nSb⟩
  · obtain ⟨m1, m2, m3, m4⟩ := hm.1 x nd e
    obtain ⟨o, eo⟩ := Option.ne_none_iff_exists'.mp m1.there
    exact ⟨m1.grow ⟨fun _ h => h, eqS⟩ ((sm x o (m3 (a, b) rfl).1 eo).trans eo.symm), m2, .inl (by rw [e]; exact fun z => nomatch z)⟩
end PL

/-! The layer: a law's own def, its end. -/
namespace PL
open PySem PySem.Spec PyProof.Rows L2

section
variable {P : Program} {w : World} {K : PySem.W.Frag} {mg mb : Str → Option Value}
end

/-- a call of a def by its bare promise -/
theorem pe_callG {X : Cx} {Wx : WX} {k : Nat} {f : Addr} {fd : FuncData} {ps : List Str} {sp : Sp} {x : Str} {p pos : Pos} {e : Expr} {es : List Expr} {t : TA} (F : FnG X.prog X.w X.K X.mg X.base k f fd ps sp) (hgd : X.A.guards = some []) (hr : Room k X.A) (tk : Takes X Wx) (hg : Gl X x) (hm : X.mg x = some (.ref f)) (hk : PySem.W.keepIn X.K (.ref f) = true)
    (hb : Binds X.K fd ps []) (ha : PA X (e :: es) t) (hdb : (x == ("__debug__" : Str)) = false) (he : starEach (e :: es) X.env = (false, eval e X.env) :: starEach es X.env := by rfl) (hpl : (backTo pos (starEach es X.env)).any (·.1) = false := by rfl) :
    PE X (.Call (.Name x p) (e :: es) [] pos) (fun σ H Q => t σ H fun vs H1 => sp vs H1 Q (WE Wx σ)) :=
  ⟨fun pins s σ H Q I h => by
    refine wpAny_Call_Name_kw (ld_glob I hg hm ?_ hdb)
    refine PySem.W.callWith_K (h₀ := X.base) I.ok.mod.kin hk (thn (ha.run pos pins s σ H _ I h) fun us s1 ⟨vs, H1, I1, r1, q1⟩ => ⟨I1.kIn, ?_⟩) he hpl
    have hb1 := hb s1 us I1.kIn (by rw [List.append_nil, ← r1.length]; exact F.len _ _ _ _ q1)
    rw [List.append_nil] at hb1
    exact run_call F hgd hr tk I1 hb1 r1 q1⟩
end PL

/-! The layer: written dicts, calls by names. -/
namespace PL
open PySem PySem.Spec PyProof.Rows L2
section
variable {G : PenK} {X : Cx} {Wx : WX}
end
theorem kbd {K : PySem.W.Frag} {x qual : Str} {st : Stmt} {f : Addr} {fd : FuncData} {ps ks : List Str} {n : Nat} {order : List Nat} (F : Fun K x qual st f fd)
    (h : ∀ (kV doc pm : Value) (an : Option Addr) (cdv ct : Value) (us ws : List Value), us.length = n → ws.length = ks.length → bindArgs (PySem.W.fnOf x qual (defArgs st) (defBody st) (defScope st) .none kV doc pm an cdv ct) ⟨us, ks.zip ws⟩ = pure (ps.zip (pick order (us ++ ws)))) : KBd K fd ps n ks order := by
  obtain ⟨oc, od, kV, doc, pm, an, cdv, ct, osl, rfl, lk, hcd⟩ := F.ex
  exact fun s us ws _ h1 h2 => .of_eq (h kV doc pm an cdv ct us ws h1 h2)
end PL

/-! The layer: enumerate of a list or a tuple; name = [..] on one line. -/
namespace PL
open PySem PySem.Spec PyProof.Rows L2

section
variable {G : PenK} {X : Cx} {Wx : WX}
def enumFrom (i : Nat) : List D → List D
  | [] => []
  | x :: xs => .tup [.int i, x] :: enumFrom (i + 1) xs
theorem enumFrom_len : ∀ (i : Nat) (xs : List D), (enumFrom i xs).length = xs.length
  | _, [] => rfl
  | i, x :: xs => by show _ + 1 = _ + 1; rw [enumFrom_len]
theorem enumFrom_get : ∀ (j i : Nat) (xs : List D), (enumFrom j xs)[i]? = (xs[i]?).map fun x => .tup [.int ((j + i : Nat) : Int), x]
  | _, _, [] => rfl
  | j, 0, x :: xs => rfl
  | j, i + 1, x :: xs => by
    show (enumFrom (j + 1) xs)[i]? = (xs[i]?).map _
    rw [enumFrom_get, show j + 1 + i = j + (i + 1) by omega]
end
end PL

/-! What a mirror does, in plain words: Gen m c Q says that m ends with a value under Q, after at most c draws. -/
namespace PL
open PySem PySem.Spec L2
section
variable {α β : Type}
theorem bnd_ret (a : α) (f : α → W β) : bnd (ret a) f = f a := rfl
theorem bnd_bnd {γ : Type} (m : W α) (f : α → W β) (g : β → W γ) : bnd (bnd m f) g = bnd m fun a => bnd (f a) g := rfl
theorem grd_pos {p : Prop} (h : p) (m : W α) : grd p m = m := by
  funext n P X
  exact propext ⟨fun q => q.2, fun q => ⟨h, q⟩⟩
theorem few_pos {xs : List D} (h : xs.length ≤ sizeLine) (m : W α) : few xs m = m := grd_pos h m
def Gen (m : W α) (c : Nat) (Q : α → Prop) : Prop := ∀ (n : Nt) (P : α → Nt → Prop) (PX : Exc → Nt → Prop), n.n + c ≤ drawMax → (∀ a k, Q a → n.n ≤ k → k ≤ n.n + c → P a ⟨k, n.μ⟩) → m n P PX
theorem Gen.ret {a : α} {Q : α → Prop} (h : Q a) : Gen (PL.ret a) 0 Q := fun n P PX _ k => k a n.n h (Nat.le_refl _) (Nat.le_refl _)
theorem Gen.bnd {m : W α} {f : α → W β} {c d : Nat} {Q : α → Prop} {R : β → Prop} (h : Gen m c Q) (hf : ∀ a, Q a → Gen (f a) d R) : Gen (PL.bnd m f) (c + d) R := fun n P PX hn k =>
  h n _ PX (by omega) fun a j q h1 h2 => hf a q ⟨j, n.μ⟩ P PX (by show j + d ≤ _; omega) fun b i r h3 h4 => k b i r (Nat.le_trans h1 h3) (by have h4 : i ≤ j + d := h4; omega)
theorem Gen.le {m : W α} {c d : Nat} {Q R : α → Prop} (h : Gen m c Q) (hc : c ≤ d) (hq : ∀ a, Q a → R a) : Gen m d R := fun n P PX hn k => h n P PX (by omega) fun a j q h1 h2 => k a j (hq a q) h1 (by omega)
theorem Gen.to {m : W α} {c : Nat} {Q R : α → Prop} (h : Gen m c Q) (hq : ∀ a, Q a → R a) : Gen m c R := h.le (Nat.le_refl _) hq
theorem Gen.up {m : W α} {c d : Nat} {Q : α → Prop} (h : Gen m c Q) (hc : c ≤ d) : Gen m d Q := h.le hc fun _ q => q
theorem Gen.grd {p : Prop} {m : W α} {c : Nat} {Q : α → Prop} (hp : p) (h : Gen m c Q) : Gen (PL.grd p m) c Q := by rw [grd_pos hp]; exact h
theorem Gen.few {xs : List D} {m : W α} {c : Nat} {Q : α → Prop} (hp : xs.length ≤ sizeLine) (h : Gen m c Q) : Gen (PL.few xs m) c Q := Gen.grd hp h
theorem Gen.quiet {m : W α} {c : Nat} {Q : α → Prop} (h : Gen m c Q) : Gen (PL.quiet m) c Q := fun n P PX hn k => h n P _ hn k
theorem Gen.ite {p : Prop} [Decidable p] {m m' : W α} {c : Nat} {Q : α → Prop} (h1 : p → Gen m c Q) (h2 : ¬ p → Gen m' c Q) : Gen (if p then m else m') c Q := by
  split
  · exact h1 ‹_›
  · exact h2 ‹_›
/-- a value, no draws -/
def Is (m : W α) (a : α) : Prop := Gen m 0 (· = a)
theorem Is.ret (a : α) : Is (PL.ret a) a := Gen.ret rfl
theorem Is.of {m : W α} {a : α} (h : m = PL.ret a) : Is m a := by rw [h]; exact Is.ret a
theorem Is.bnd {m : W α} {f : α → W β} {a : α} {c : Nat} {R : β → Prop} (h : Is m a) (hf : Gen (f a) c R) : Gen (PL.bnd m f) c R := (Gen.bnd h fun b e => by rw [e]; exact hf).up (by omega)
theorem Gen.draw {b : Int} (h0 : 0 < b) (h1 : b < 1073741824) : Gen (drawB b) 1 fun d => ∃ r : Nat, d = .int r ∧ (r : Int) < b := fun n P PX hn k =>
  ⟨by omega, h0, h1, fun r j q1 q2 q3 q4 => k _ j ⟨r.toNat, by rw [Int.toNat_of_nonneg q1], by omega⟩ q3 q4⟩
theorem Gen.drawM {b : Int} (h0 : 0 < b) (h1 : b < 1073741824) : Gen (PL.drawM [.pen, .d (.int b)]) 1 fun d => ∃ r : Nat, d = .int r ∧ (r : Int) < b := Gen.draw h0 h1
end
theorem Gen.call {m : List SV → W D} {args : List SV} {c : Nat} {Q : D → Prop} (h : Gen (m args) c Q) (hc : c ≤ drawMax := by decide) : Gen (callM m args) c Q := fun n P PX hn k => by
  unfold callM
  split
  · exact h n P PX hn k
  · exact h ⟨0, n.μ⟩ _ _ (by show 0 + c ≤ _; omega) fun a j q _ _ => k a n.n q (Nat.le_refl _) (Nat.le_add_right _ _)
theorem Gen.andThen {m : W Out} {k : Env → W Out} {c d : Nat} {R : Env → Prop} {Q : D → Prop} (h : Gen m c fun o => (∃ ρ, o = .nx ρ ∧ R ρ) ∨ ∃ d ρ, o = .rt d ρ ∧ Q d) (hk : ∀ ρ, R ρ → Gen (k ρ) d fun o => ∃ d ρ, o = .rt d ρ ∧ Q d) :
    Gen (PL.andThen m k) (c + d) fun o => ∃ d ρ, o = .rt d ρ ∧ Q d :=
  Gen.bnd h fun o z => by
    rcases z with ⟨ρ, e, q⟩ | ⟨x, ρ, e, q⟩
    · rw [e]
      exact hk ρ q
    · rw [e]
      exact (Gen.ret ⟨x, ρ, rfl, q⟩).up (Nat.zero_le _)
/-! ### rows for simp -/
theorem tru_bl (b : Bool) : tru (.bl b) = PL.ret b := rfl
theorem blB_bl (b : Bool) : blB (.bl b) = PL.ret b := rfl
theorem leD_int (i j : Int) : leD (.int i) (.int j) = PL.ret (.bl (decide (i ≤ j))) := rfl
theorem items_tup (xs : List D) : items (.tup xs) = PL.ret xs := rfl
theorem eqD_int (i j : Int) : eqD (.int i) (.int j) = PL.ret (.bl (decide (i = j))) := by
  unfold eqD
  rw [grd_pos (.inl ⟨rfl, rfl⟩)]
  simp only [py, PyData.eqv]
  rfl
theorem ix_l {xs : List D} {i : Int} {x : D} (h : atI xs i = some x) : ixD (.lst xs) (.int i) = PL.ret x := by
  show (match atI xs i with | some x => PL.ret x | none => stuck : W D) = _
  rw [h]
theorem ix_t {xs : List D} {i : Int} {x : D} (h : atI xs i = some x) : ixD (.tup xs) (.int i) = PL.ret x := by
  show (match atI xs i with | some x => PL.ret x | none => stuck : W D) = _
  rw [h]
theorem ix_s {s : Str} {i : Int} {k : Nat} (h : atI s.cps.toList i = some k) : ixD (.str s) (.int i) = PL.ret (.str ⟨#[k]⟩) := by
  show (match atI s.cps.toList i with | some k => PL.ret (.str ⟨#[k]⟩) | none => stuck : W D) = _
  rw [h]
theorem ix0 (x : D) (xs : List D) : ixD (.tup (x :: xs)) (.int 0) = PL.ret x := ix_t (atI_nat (j := 0) rfl)
theorem ix1 (a x : D) (xs : List D) : ixD (.tup (a :: x :: xs)) (.int 1) = PL.ret x := ix_t (atI_nat (j := 1) rfl)
theorem ix_atT {xs : List D} {i : Nat} (h : i < xs.length) : ixD (.tup xs) (.int i) = PL.ret xs[i] := ix_t (atI_nat (List.getElem?_eq_getElem h))
/-- what may be shown, built from short parts -/
inductive Ok : D → Prop
  | non : Ok .non
  | bl (b : Bool) : Ok (.bl b)
  | int {i : Int} (h : i.natAbs < 10 ^ 61) : Ok (.int i)
  | str {s : Str} (h : okD (.str s) = true) : Ok (.str s)
  | lst {xs : List D} (h : ∀ x ∈ xs, Ok x) : Ok (.lst xs)
  | tup {xs : List D} (h : ∀ x ∈ xs, Ok x) : Ok (.tup xs)
  | dic0 : Ok (.dic [])
  | dic1 {s : Str} {i : Int} (h : okD (.str s) = true) (h2 : i.natAbs < 10 ^ 61) : Ok (.dic [(.inr s, .int i)])
theorem str_short {s : Str} (h : okD (.str s) = true) (B : Nat) : (py (.str s)).leavesShort B = true := by
  simp only [okD, SeqAt.shaped, py, PyData.canLay0, PyData.strOk, Bool.and_eq_true] at h
  simp only [py, PyData.leavesShort, List.all_eq_true, decide_eq_true_eq]
  have q := h.1
  rw [← Array.all_toList, List.all_eq_true] at q
  intro c hc
  have := of_decide_eq_true (q c hc)
  have e : (16 : Nat) ^ 8 = 4294967296 := by decide
  omega
theorem int_short {i : Int} (h : i.natAbs < 10 ^ 61) : (py (.int i)).leavesShort 62 = true := by
  simp only [py, PyData.leavesShort, PyData.shown]
  apply decide_eq_true
  rw [ofString_length]
  exact int_text_length_le10 (by decide) h
theorem int_showable {i : Int} (h : i.natAbs < 10 ^ 61) : (py (.int i)).showable = true := by
  simp only [py, PyData.showable, decide_eq_true_eq]
  refine Nat.lt_of_le_of_lt (?_ : i.natAbs.log2 ≤ 300) (by decide)
  by_cases hz : i.natAbs = 0
  · rw [hz]; decide
  · exact Nat.le_of_lt_succ ((Nat.log2_lt hz).mpr (Nat.lt_trans h (by decide +kernel)))
theorem pys_short : ∀ {xs : List D}, (∀ x ∈ xs, (py x).leavesShort 62 = true ∧ (py x).showable = true) → PyData.leavesShortAll 62 (pys xs) = true ∧ PyData.showableAll (pys xs) = true
  | [], _ => ⟨by simp [pys, PyData.leavesShortAll], by simp [pys, PyData.showableAll]⟩
  | x :: xs, h => by
    have ih := pys_short (xs := xs) fun y hy => h y (List.mem_cons_of_mem _ hy)
    have q := h x List.mem_cons_self
    exact ⟨by simp [pys, PyData.leavesShortAll, q.1, ih.1], by simp [pys, PyData.showableAll, q.2, ih.2]⟩
theorem Ok.short : ∀ {x : D}, Ok x → (py x).leavesShort 62 = true ∧ (py x).showable = true := by
  intro x h
  induction h with
  | non => exact ⟨by simp [py, PyData.leavesShort], by simp [py, PyData.showable]⟩
  | bl b => exact ⟨by simp [py, PyData.leavesShort], by simp [py, PyData.showable]⟩
  | int h => exact ⟨int_short h, int_showable h⟩
  | str h => exact ⟨str_short h _, by simp [py, PyData.showable]⟩
  | lst _ ih => exact ⟨by simp [py, PyData.leavesShort, (pys_short ih).1], by simp [py, PyData.showable, (pys_short ih).2]⟩
  | tup _ ih => exact ⟨by simp [py, PyData.leavesShort, (pys_short ih).1], by simp [py, PyData.showable, (pys_short ih).2]⟩
  | dic0 => exact ⟨by simp [py, pyk, PyData.leavesShort, PyData.leavesShortKv], by simp [py, pyk, PyData.showable, PyData.showableKv]⟩
  | dic1 h h2 =>
    have a := str_short h 62
    have b := int_short h2
    have c := int_showable h2
    refine ⟨?_, ?_⟩
    · show (PyData.leavesShort 62 (py (.str _)) && PyData.leavesShort 62 (py (.int _)) && true) = true
      rw [a, b]
      rfl
    · show (true && PyData.showable (py (.int _)) && true) = true
      rw [c]
      rfl
theorem repr_ok {x : D} (h : Ok x) (hb : (py x).bulk ≤ 200000) (hd : (py x).depth ≤ 64) : reprD x = PL.ret (.str (py x).shown) ∧ (py x).shown.length ≤ sizeLine := by
  have h1 := PyData.shown_le_bulk 62 (by decide) (py x) h.short.1
  have h2 : (py x).shown.length ≤ sizeLine := by rw [sizeLine_eq]; omega
  exact ⟨grd_pos ⟨h.short.2, h2, hd⟩ _, h2⟩
theorem Gen.take {b : Int} (h0 : 0 < b := by decide) (h1 : b < 1073741824 := by decide) : Gen (callM PL.drawM [.pen, .d (.int b)]) 1 fun d => ∃ r : Nat, d = .int r ∧ (r : Int) < b := Gen.call (Gen.drawM h0 h1)
theorem fewS {α : Type} {xs : List D} (h : xs.length ≤ 1000) (m : W α) : few xs m = m := few_pos (by rw [sizeLine_eq]; omega) m
theorem Gen.tk {β : Type} {b : Int} {f : D → W β} {C : Nat} {Q : β → Prop} (c : Nat) (k : ∀ r : Nat, (r : Int) < b → Gen (f (.int r)) c Q) (hc : c + 1 ≤ C := by decide) (h0 : 0 < b := by decide) (h1 : b < 1073741824 := by decide) : Gen (PL.bnd (callM PL.drawM [.pen, .d (.int b)]) f) C Q :=
  (Gen.bnd (Gen.take h0 h1) fun d ⟨r, e, hr⟩ => by rw [e]; exact k r hr).up (by omega)
theorem Gen.ty {α β : Type} {m : W α} {f : α → W β} {C : Nat} {R : α → Prop} {Q : β → Prop} (c d : Nat) (h : Gen m c R) (k : ∀ a, R a → Gen (f a) d Q) (hc : c + d ≤ C := by decide) : Gen (PL.bnd m f) C Q := (Gen.bnd h k).up hc
theorem joinL_nil : ∀ ks : List Nat, TL.joinL [] (ks.map fun k => [k]) = ks
  | [] => rfl
  | [_] => rfl
  | k :: j :: r => by
    show [k] ++ ([] ++ TL.joinL [] ((j :: r).map fun k => [k])) = _
    rw [joinL_nil (j :: r)]
    rfl
theorem join_signs (ks : List Nat) : Txt.join (Str.ofString "") (ks.map fun k => (⟨#[k]⟩ : Str)) = ⟨ks.toArray⟩ := by
  have e : TL.tl (Txt.join (Str.ofString "") (ks.map fun k => (⟨#[k]⟩ : Str))) = ks := by
    rw [TL.join_eq, TL.tl_join, List.map_map]
    exact joinL_nil ks
  have e2 : ∀ x : Str, x = ⟨(TL.tl x).toArray⟩ := fun x => by cases x; rfl
  rw [e2 (Txt.join _ _), e]
theorem txts_signs : ∀ ks : List Nat, txts (ks.map fun k => D.str ⟨#[k]⟩) = some (ks.map fun k => ⟨#[k]⟩)
  | [] => rfl
  | k :: ks => by
    show (txts (ks.map _)).map _ = _
    rw [txts_signs ks]
    rfl
theorem sum_ones : ∀ ks : List Nat, ((ks.map fun k => (⟨#[k]⟩ : Str)).map (·.length)).sum = ks.length
  | [] => rfl
  | k :: ks => by
    rw [List.map_cons, List.map_cons, List.sum_cons, sum_ones ks, List.length_cons]
    show 1 + _ = _
    omega
theorem joinD_signs (ks : List Nat) (h : ks.length ≤ 1000) : joinD (.str (Str.ofString "")) (.lst (ks.map fun k => .str ⟨#[k]⟩)) = PL.ret (.str ⟨ks.toArray⟩) := by
  show joinW _ _ = _
  unfold joinW
  rw [txts_signs]
  show grd _ _ = _
  rw [join_signs]
  have e : (Str.mk ks.toArray).length = ks.length := List.size_toArray
  refine grd_pos ⟨?_, by rw [e, sizeLine_eq]; omega⟩ _
  rw [sum_ones, List.length_map, show (Str.ofString "").length = 0 from rfl]
  omega
theorem signs_ok {l : List D} {p : Nat → Prop} : (∀ y ∈ l, ∃ k, y = .str ⟨#[k]⟩ ∧ p k) → ∃ ks : List Nat, l = ks.map (fun k => .str ⟨#[k]⟩) ∧ ks.length = l.length ∧ ∀ k ∈ ks, p k := by
  induction l with
  | nil => exact fun _ => ⟨[], rfl, rfl, fun _ h => nomatch h⟩
  | cons y l ih =>
    intro h
    obtain ⟨k, rfl, hk⟩ := h y List.mem_cons_self
    obtain ⟨ks, rfl, e, hp⟩ := ih fun z hz => h z (List.mem_cons_of_mem _ hz)
    exact ⟨k :: ks, rfl, by simp, fun j hj => by rcases List.mem_cons.mp hj with rfl | hj; exact hk; exact hp j hj⟩
theorem okD_small {s : Str} (h : ∀ k ∈ s.cps.toList, k < 1114112) : okD (.str s) = true := by
  simp only [okD, SeqAt.shaped, py, PyData.canLay0, PyData.strOk, PyData.depth, Bool.and_eq_true]
  refine ⟨?_, by decide⟩
  rw [← Array.all_toList, List.all_eq_true]
  exact fun k hk => decide_eq_true (h k hk)
end PL

/-! Statements over a state whose names are told one by one: a block's mirror speaks of values alone. -/
namespace PL
open PySem PySem.Spec L2 PyProof.Rows

/-- how a block's ends are carried on -/
structure Enz (γ : Type) where
  nx : Env → W γ → Prop
  rt : D → W γ → Prop
  bk : Env → W γ → Prop
  ct : Env → W γ → Prop
inductive Step (J γ : Type) where
  | go (j : J) | bk (j : J) | out (g : γ)
def forK {J γ : Type} (k f : J → W γ) : Step J γ → W γ
  | .go j => f j
  | .bk j => k j
  | .out g => ret g
def forT {α J γ : Type} (bd : α → J → W (Step J γ)) (k : J → W γ) : List α → J → W γ
  | [], j => k j
  | x :: xs, j => bnd (bd x j) (forK k fun j' => forT bd k xs j')
/-- some names forgotten -/
def Le (ρ ρ' : Env) : Prop := ρ'.length = ρ.length ∧ ∀ i : Nat, ρ'[i]? = ρ[i]? ∨ ρ'[i]? = some .un
theorem Le.refl {ρ : Env} : Le ρ ρ := ⟨rfl, fun _ => .inl rfl⟩
theorem Le.nil : Le [] [] := .refl
theorem Le.same {s : SV} {ρ ρ' : Env} (h : Le ρ ρ') : Le (s :: ρ) (s :: ρ') := ⟨by simp [h.1], fun i => match i with
  | 0 => .inl rfl
  | i + 1 => h.2 i⟩
theorem Le.un {s : SV} {ρ ρ' : Env} (h : Le ρ ρ') : Le (s :: ρ) (.un :: ρ') := ⟨by simp [h.1], fun i => match i with
  | 0 => .inr rfl
  | i + 1 => h.2 i⟩

section
variable {G : PenK} {K : PySem.W.Frag} {c : C} {σ : L2.St} {ρ ρ' : Env} {H : Hp} {n : Nt}
theorem SI.le (I : SI G K c σ H ρ n) (h : Le ρ ρ') : SI G K c σ H ρ' n := by
  have key : ∀ (i : Nat) (sv : SV), ρ'[i]? = some sv → sv = .un ∨ ρ[i]? = some sv := fun i sv e => by
    rcases h.2 i with q | q
    · exact .inr (q ▸ e)
    · rw [q] at e; exact .inl (Option.some.inj e).symm
  refine ⟨h.1.trans I.len, fun i sv e => ?_, fun i sv a e ho => ?_, fun i j sv sv' a hn e e' ho ho' => ?_, I.dom, I.fr, I.pen, I.no, I.tab, I.mu, I.mu0, I.mz⟩
  · rcases key i sv e with rfl | q
    · trivial
    · exact I.slots i sv q
  · rcases key i sv e with rfl | q
    · cases ho
    · exact I.own i sv a q ho
  · rcases key i sv e with rfl | q
    · cases ho
    · rcases key j sv' e' with rfl | q'
      · cases ho'
      · exact I.apart i j sv sv' a hn q q' ho ho'
end

section
variable (G : PenK) (X : Cx) (Wx : WX) {γ : Type}
def GlE (En : Enz γ) (c : C) (H : Hp) (P : γ → Nt → Prop) (PX : Exc → Nt → Prop) (Dn : Ends) : Prop :=
  (∀ ρ' m k σ' S' H', En.nx ρ' m → m k P PX → Grow c.S S' H H' → SI G X.K (c.to S') σ' H' ρ' k → Dn.nx σ' H') ∧
  (∀ d m k v σ' ρ' S' H', En.rt d m → m k P PX → Grow c.S S' H H' → SI G X.K (c.to S') σ' H' ρ' k → Rep X.K S' H' d v → Dn.rt v H') ∧
  (∀ ρ' m k σ' S' H', En.bk ρ' m → m k P PX → Grow c.S S' H H' → SI G X.K (c.to S') σ' H' ρ' k → Dn.bk σ' H') ∧
  ∀ ρ' m k σ' S' H', En.ct ρ' m → m k P PX → Grow c.S S' H H' → SI G X.K (c.to S') σ' H' ρ' k → Dn.ct σ' H'
def tG (ρ : Env) (En : Enz γ) (m : W γ) : TS := fun Dn σ H => ∃ c n P PX, SI G X.K c σ H ρ n ∧ m n P PX ∧ GlE G X En c H P PX Dn ∧ OKs G X Wx c H PX
def SG (ss : List Stmt) (ρ : Env) (En : Enz γ) (m : W γ) : Prop := PSs X ss (tG G X Wx ρ En m)
end
section
variable {G : PenK} {X : Cx} {Wx : WX} {γ : Type} {En : Enz γ} {ρ ρ' : Env} {rest : List Stmt} {m : W γ}
theorem GlE.grow {c : C} {H H' : Hp} {P : γ → Nt → Prop} {PX : Exc → Nt → Prop} {Dn : Ends} {S' : Addr → Prop} (h : GlE G X En c H P PX Dn) (g : Grow c.S S' H H') : GlE G X En (c.to S') H' P PX Dn :=
  ⟨fun ρ m k σ S2 H2 e p g2 I => h.1 ρ m k σ S2 H2 e p (g.trans g2) I, fun d m k v σ ρ S2 H2 e p g2 I r => h.2.1 d m k v σ ρ S2 H2 e p (g.trans g2) I r,
    fun ρ m k σ S2 H2 e p g2 I => h.2.2.1 ρ m k σ S2 H2 e p (g.trans g2) I, fun ρ m k σ S2 H2 e p g2 I => h.2.2.2 ρ m k σ S2 H2 e p (g.trans g2) I⟩
theorem pss_un {α : Type} {t : α → TS} (h : ∀ a, PSs X rest (t a)) : PSs X rest (fun Dn σ H => ∃ a, t a Dn σ H) := ⟨fun pins s σ H D I ⟨a, q⟩ => (h a).run pins s σ H D I q⟩
theorem pss_no : PSs X rest (fun _ _ _ => False) := ⟨fun _ _ _ _ _ _ q => q.elim⟩
theorem inj_eq {α β : Type} {e : α → β} (inj : ∀ a b, e a = e b → a = b) (k : α → Nt → Prop) : (fun a j => ∃ b, e a = e b ∧ k b j) = k := by
  funext a j
  exact propext ⟨fun ⟨b, h, q⟩ => (inj a b h) ▸ q, fun q => ⟨a, rfl, q⟩⟩
theorem sg_eq {ss : List Stmt} {m m' : W γ} (h : SG G X Wx ss ρ En m) (e : m = m') : SG G X Wx ss ρ En m' := e ▸ h
theorem sg_nil (h : En.nx ρ m) : SG G X Wx [] ρ En m := weakSs pss_nil fun Dn σ H ⟨c, n, P, PX, I, q, hg, hx⟩ => hg.1 ρ m n σ c.S H h q .refl I
/-- a statement behind which one goes on -/
theorem sg_stmt {s : Stmt} {g : Env → W Out} {α : Type} {m0 : W α} {e : α → Env} {k : α → W γ} (h : St1 G X Wx s g) (hg : g ρ = bnd m0 fun a => ret (.nx (e a))) (inj : ∀ a b, e a = e b → a = b) (hr : ∀ a, SG G X Wx rest (e a) En (k a)) :
    SG G X Wx (s :: rest) ρ En (bnd m0 k) :=
  weakSs (pss_cons h (pss_un hr)) fun Dn σ H ⟨c, n, P, PX, I, q, hgl, hx⟩ => by
    refine ⟨c, ρ, n, fun o j => ∃ a, o = .nx (e a) ∧ k a j P PX, PX, I, ?_, ⟨fun ρ' j σ' S' H' ⟨a, ea, p⟩ g I' => ?_, fun d j v σ' ρ' S' H' ⟨a, ea, p⟩ _ _ _ => (nomatch ea), fun ρ' j σ' S' H' ⟨a, ea, p⟩ _ _ => (nomatch ea), fun ρ' j σ' S' H' ⟨a, ea, p⟩ _ _ => (nomatch ea)⟩, hx⟩
    · rw [hg]
      have ee := inj_eq (e := fun a => Out.nx (e a)) (fun a b z => inj a b (Out.nx.inj z)) fun a j => k a j P PX
      show m0 n (fun a j => ∃ b, Out.nx (e a) = Out.nx (e b) ∧ k b j P PX) PX
      rw [ee]
      exact q
    · cases ea
      exact ⟨a, c.to S', j, P, PX, I', p, hgl.grow g, hx.grow g⟩
theorem sg_ret {e : Expr} {pos : Pos} {g : Env → W D} {α : Type} {m0 : W α} {f : α → D} {r : α → W γ} (h : E G X Wx e g) (hg : g (bor ρ) = bnd m0 fun a => ret (f a)) (inj : ∀ a b, f a = f b → a = b) (hr : ∀ a, En.rt (f a) (r a)) :
    SG G X Wx (.Return (some e) pos :: rest) ρ En (bnd m0 r) :=
  weakSs (pss_cons (ps_ret h) pss_no) fun Dn σ H ⟨c, n, P, PX, I, q, hgl, hx⟩ => by
    obtain ⟨I2, g2⟩ := I.lend
    refine ⟨_, bor ρ, n, fun d j => ∃ a, d = f a ∧ r a j P PX, PX, I2, ?_, fun d j v S' H' ⟨a, ea, p⟩ g I' rv => ?_, (hx.grow g2).x⟩
    · rw [hg]
      show m0 n (fun a j => ∃ b, f a = f b ∧ r b j P PX) PX
      rw [inj_eq inj fun a j => r a j P PX]
      exact q
    · subst ea
      exact hgl.2.1 (f a) (r a) j v σ _ S' H' (hr a) p (g2.trans g) I' rv
/-- the ends of a block behind which a rest stands -/
def Enz.push (En : Enz γ) (G : PenK) (X : Cx) (Wx : WX) (rest : List Stmt) : Enz γ := { En with nx := fun ρ m => SG G X Wx rest ρ En m }
theorem sg_push {En : Enz γ} (h : SG G X Wx rest ρ En m) : SG G X Wx [] ρ (En.push G X Wx rest) m := sg_nil h
theorem sg_if {t : Expr} {a b : List Stmt} {pos : Pos} {gt : Env → W Bool} {mt : W Bool} {ma mb : W γ} (ht : T G X Wx t gt) (hg : gt (bor ρ) = mt) (ha : SG G X Wx a ρ (En.push G X Wx rest) ma) (hb : SG G X Wx b ρ (En.push G X Wx rest) mb) :
    SG G X Wx (.If t a b pos :: rest) ρ En (bnd mt fun x => if x = true then ma else mb) :=
  weakSs (pss_cons (ps_if ht ha hb) (pss_un fun z : { z : Env × W γ // SG G X Wx rest z.1 En z.2 } => z.2)) fun Dn σ H ⟨c, n, P, PX, I, q, hgl, hx⟩ => by
    obtain ⟨I2, g2⟩ := I.lend
    subst hg
    refine tT.bnd (f := fun x => if x = true then ma else mb) I2 q (hx.grow g2).x fun b k S' H' p g I' hx' => ?_
    obtain ⟨I3, g3⟩ := I.back g I'
    have hgl3 := hgl.grow g3
    have hx3 := hx.grow g3
    have hE : GlE G X (En.push G X Wx rest) (c.to fun a => S' a ∧ ¬ ownS ρ σ a) H' P PX { Dn with nx := fun σ H => ∃ z : { z : Env × W γ // SG G X Wx rest z.1 En z.2 }, tG G X Wx z.1.1 En z.1.2 Dn σ H } :=
      ⟨fun ρ' m k σ' S' H' e p g I => ⟨⟨(ρ', m), e⟩, _, k, P, PX, I, p, hgl3.grow g, hx3.grow g⟩, hgl3.2.1, hgl3.2.2.1, hgl3.2.2.2⟩
    cases b with
    | true => exact iteT ⟨_, k, P, PX, I3, p, hE, hx3⟩
    | false => exact iteF ⟨_, k, P, PX, I3, p, hE, hx3⟩
theorem sg_ifP {t : Expr} {a b : List Stmt} {pos : Pos} {gt : Env → W Bool} {x : Bool} {ma mb : W γ} (ht : T G X Wx t gt) (hg : gt (bor ρ) = ret x) (ha : SG G X Wx a ρ (En.push G X Wx rest) ma) (hb : SG G X Wx b ρ (En.push G X Wx rest) mb) :
    SG G X Wx (.If t a b pos :: rest) ρ En (if x = true then ma else mb) := sg_if ht hg ha hb
theorem sg_retP {e : Expr} {pos : Pos} {g : Env → W D} {d : D} (h : E G X Wx e g) (hg : g (bor ρ) = ret d) (hr : En.rt d m) : SG G X Wx (.Return (some e) pos :: rest) ρ En m :=
  sg_ret (m0 := ret ()) (f := fun _ => d) (r := fun _ => m) h hg (fun _ _ _ => rfl) fun _ => hr
theorem sg_retD {e : Expr} {pos : Pos} {g : Env → W D} {m0 : W D} {r : D → W γ} (h : E G X Wx e g) (hg : g (bor ρ) = m0) (hr : ∀ d, En.rt d (r d)) : SG G X Wx (.Return (some e) pos :: rest) ρ En (bnd m0 r) :=
  sg_ret (f := fun d => d) h (hg.trans rfl) (fun _ _ h => h) hr
/-- the ends of a loop's body -/
def Enz.loop {J : Type} (En : Enz γ) (emb : J → Env) : Enz (Step J γ) where
  nx := fun ρ m => ∃ j, m = ret (.go j) ∧ Le ρ (emb j)
  ct := fun ρ m => ∃ j, m = ret (.go j) ∧ Le ρ (emb j)
  bk := fun ρ m => ∃ j, m = ret (.bk j) ∧ Le ρ (emb j)
  rt := fun d m => ∃ mg, En.rt d mg ∧ m = bnd mg fun g => ret (.out g)
theorem map_inj {α β : Type} {f : α → β} (inj : ∀ a b, f a = f b → a = b) : ∀ xs ys : List α, xs.map f = ys.map f → xs = ys
  | [], [], _ => rfl
  | [], _ :: _, h => by simp at h
  | _ :: _, [], h => by simp at h
  | x :: xs, y :: ys, h => by
    rw [List.map_cons, List.map_cons] at h
    obtain ⟨h1, h2⟩ := List.cons.inj h
    rw [inj x y h1, map_inj inj xs ys h2]
theorem sg_for {J α β : Type} {tg it : Expr} {body : List Stmt} {pos : Pos} {t : Tg} {gi : Env → W (List D)} {mw : W (List β)} {tt : List β → List D} {f : β → D} {emb : J → Env} {j0 : J} {mu : β → W α} {e : α → J → Env} {bb : α → J → W (Step J γ)} {kk : J → W γ}
    (hp : PassesOwn (model X.prog X.w) X.A X.env X.xe) (hc : X.calm = true) (hi : Wk G X Wx tg it gi) (ht : PTg X tg t) (hgi : gi ρ = bnd mw fun ys => ret (tt ys)) (htt : ∀ ys, tt ys = ys.map f) (hf : ∀ a b, f a = f b → a = b) (hl : Le ρ (emb j0)) (hs : ∀ x j, setT t (f x) (emb j) = bnd (mu x) fun a => ret (e a j)) (inj : ∀ j a b, e a j = e b j → a = b)
    (hb : ∀ a j, SG G X Wx body (e a j) (En.loop emb) (bb a j)) (hr : ∀ j, SG G X Wx rest (emb j) En (kk j)) (hfs : ∀ x, foldedSetIterable it X.env x = pure x := by intro _; rfl) :
    SG G X Wx (.For tg it body [] pos :: rest) ρ En (bnd mw fun ys => forT (fun x j => bnd (mu x) fun a => bb a j) kk ys j0) :=
  weakSs (pss_cons (ps_for hp hc hi ht (pss_un fun z : α × J => hb z.1 z.2) hfs) (pss_un hr)) fun Dn σ H ⟨c, n, P, PX, I, q, hg, hx⟩ => by
    refine ⟨c, ρ, n, fun xs k => ∃ ys, xs = ys.map f ∧ forT (fun x j => bnd (mu x) fun a => bb a j) kk ys j0 k P PX, PX, I, ?_, fun xs k S' H' J0 ⟨ys, exs, p⟩ g I' wk => ?_, hx.x⟩
    · rw [hgi]
      show mw n (fun ys k => ∃ zs, tt ys = zs.map f ∧ forT (fun x j => bnd (mu x) fun a => bb a j) kk zs j0 k P PX) PX
      have ee : (fun ys k => ∃ zs, tt ys = zs.map f ∧ forT (fun x j => bnd (mu x) fun a => bb a j) kk zs j0 k P PX) = fun ys k => forT (fun x j => bnd (mu x) fun a => bb a j) kk ys j0 k P PX := by
        funext ys k
        exact propext ⟨fun ⟨zs, h, q⟩ => (map_inj hf ys zs ((htt ys).symm.trans h)) ▸ q, fun q => ⟨ys, htt ys, q⟩⟩
      rw [ee]
      exact q
    have hlen : xs.length = ys.length := by rw [exs, List.length_map]
    refine ⟨fun i m σ2 H2 => m = xs.length - i ∧ i ≤ xs.length ∧ ∃ S2 j2 k2, Grow S' S2 H' H2 ∧ SI G X.K (c.to S2) σ2 H2 (emb j2) k2 ∧ forT (fun x j => bnd (mu x) fun a => bb a j) kk (ys.drop i) j2 k2 P PX, ⟨_, rfl, Nat.zero_le _, S', j0, k, .refl, I'.le hl, p⟩, ?_⟩
    rintro i m σ2 H2 ⟨rfl, hi, S2, j2, k2, g2, I2, p2⟩
    have gg : Grow c.S S2 H H2 := g.trans g2
    obtain ⟨w1, w2⟩ := wk (c.to S2) (emb j2) σ2 H2 k2 i g2 I2
    by_cases hlt : i < xs.length
    · obtain ⟨go, yl⟩ := w1 hlt
      have hly : i < ys.length := hlen ▸ hlt
      have gb' : ∀ (ρ' : Env) (j' : J) (k' : Nt) (σ' : L2.St) (S'' : Addr → Prop) (H'' : Hp), Le ρ' (emb j') → forT (fun x j => bnd (mu x) fun a => bb a j) kk (ys.drop (i + 1)) j' k' P PX → Grow S2 S'' H2 H'' → SI G X.K (c.to S'') σ' H'' ρ' k' →
          ∃ S3 j3 k3, Grow S' S3 H' H'' ∧ SI G X.K (c.to S3) σ' H'' (emb j3) k3 ∧ forT (fun x j => bnd (mu x) fun a => bb a j) kk (ys.drop (i + 1)) j3 k3 P PX := fun ρ' j' k' σ' S'' H'' le p' g' I'' => ⟨S'', j', k', g2.trans g', I''.le le, p'⟩
      refine .inr ⟨go, fun σ' H'' => ∃ S3 j3 k3, Grow S' S3 H' H'' ∧ SI G X.K (c.to S3) σ' H'' (emb j3) k3 ∧ forT (fun x j => bnd (mu x) fun a => bb a j) kk (ys.drop (i + 1)) j3 k3 P PX, fun σ' H'' q => ⟨xs.length - (i + 1), by omega, rfl, hlt, q⟩, fun v H3 y => ?_⟩
      obtain ⟨S3, x, g3, I3, ex, r⟩ := yl v H3 y
      have ed : ys.drop i = ys[i] :: ys.drop (i + 1) := List.drop_eq_getElem_cons hly
      have ey : x = f ys[i] := by
        rw [exs, List.getElem?_map, List.getElem?_eq_getElem hly] at ex
        exact (Option.some.inj ex).symm
      rw [ed] at p2
      subst ey
      have hx3 := hx.grow (gg.trans g3)
      have hg3 := hg.grow (gg.trans g3)
      let PP : Step J γ → Nt → Prop := fun o k => forK kk (fun j' => forT (fun x j => bnd (mu x) fun a => bb a j) kk (ys.drop (i + 1)) j') o k P PX
      have p3 : mu ys[i] k2 (fun a k => bb a j2 k PP PX) PX := p2
      have p4 : setT t (f ys[i]) (emb j2) k2 (fun ρ' k => ∃ a, ρ' = e a j2 ∧ bb a j2 k PP PX) PX := by
        rw [hs]
        show mu ys[i] k2 (fun a k => ∃ b, e a j2 = e b j2 ∧ bb b j2 k PP PX) PX
        rw [inj_eq (inj j2) fun a k => bb a j2 k PP PX]
        exact p3
      refine gT_ok t I3 r p4 fun ρ' k' σ' ⟨a, ea, p5⟩ I4 _ _ => ?_
      subst ea
      refine ⟨(a, j2), _, k', PP, PX, I4, p5, ⟨?_, ?_, ?_, ?_⟩, hx3⟩
      · rintro ρ5 _ k5 σ5 S5 H5 ⟨j', rfl, le⟩ p6 g5 I5
        exact gb' ρ5 j' k5 σ5 S5 H5 le p6 (g3.trans g5) I5
      · rintro d5 _ k5 v5 σ5 ρ5 S5 H5 ⟨mg, hrt, rfl⟩ p6 g5 I5 r5
        exact hg3.2.1 d5 mg k5 v5 σ5 ρ5 S5 H5 hrt p6 g5 I5 r5
      · rintro ρ5 _ k5 σ5 S5 H5 ⟨j', rfl, le⟩ p6 g5 I5
        exact ⟨j', _, k5, P, PX, I5.le le, p6, hg3.grow g5, hx3.grow g5⟩
      · rintro ρ5 _ k5 σ5 S5 H5 ⟨j', rfl, le⟩ p6 g5 I5
        exact gb' ρ5 j' k5 σ5 S5 H5 le p6 (g3.trans g5) I5
    · have ee : i = ys.length := by omega
      subst ee
      rw [List.drop_length] at p2
      exact .inl ⟨w2 (by omega), j2, _, k2, P, PX, I2, p2, hg.grow gg, hx.grow gg⟩
theorem sg_forI {J β : Type} {tg it : Expr} {body : List Stmt} {pos : Pos} {t : Tg} {gi : Env → W (List D)} {mw : W (List β)} {tt : List β → List D} {f : β → D} {emb : J → Env} {j0 : J} {e : β → J → Env} {bb : β → J → W (Step J γ)} {kk : J → W γ}
    (hp : PassesOwn (model X.prog X.w) X.A X.env X.xe) (hc : X.calm = true) (hi : Wk G X Wx tg it gi) (ht : PTg X tg t) (hgi : gi ρ = bnd mw fun ys => ret (tt ys)) (htt : ∀ ys, tt ys = ys.map f) (hf : ∀ a b, f a = f b → a = b) (hl : Le ρ (emb j0)) (hs : ∀ x j, setT t (f x) (emb j) = ret (e x j)) (inj : ∀ j a b, e a j = e b j → a = b)
    (hb : ∀ a j, SG G X Wx body (e a j) (En.loop emb) (bb a j)) (hr : ∀ j, SG G X Wx rest (emb j) En (kk j)) (hfs : ∀ x, foldedSetIterable it X.env x = pure x := by intro _; rfl) :
    SG G X Wx (.For tg it body [] pos :: rest) ρ En (bnd mw fun ys => forT bb kk ys j0) :=
  sg_for (mu := ret) hp hc hi ht hgi htt hf hl (fun x j => (hs x j).trans rfl) inj hb hr hfs
theorem sg_forIP {J β : Type} {tg it : Expr} {body : List Stmt} {pos : Pos} {t : Tg} {gi : Env → W (List D)} {ys : List β} {tt : List β → List D} {f : β → D} {emb : J → Env} {j0 : J} {e : β → J → Env} {bb : β → J → W (Step J γ)} {kk : J → W γ}
    (hp : PassesOwn (model X.prog X.w) X.A X.env X.xe) (hc : X.calm = true) (hi : Wk G X Wx tg it gi) (ht : PTg X tg t) (hgi : gi ρ = ret (tt ys)) (htt : ∀ ys, tt ys = ys.map f) (hf : ∀ a b, f a = f b → a = b) (hl : Le ρ (emb j0)) (hs : ∀ x j, setT t (f x) (emb j) = ret (e x j)) (inj : ∀ j a b, e a j = e b j → a = b)
    (hb : ∀ a j, SG G X Wx body (e a j) (En.loop emb) (bb a j)) (hr : ∀ j, SG G X Wx rest (emb j) En (kk j)) (hfs : ∀ x, foldedSetIterable it X.env x = pure x := by intro _; rfl) :
    SG G X Wx (.For tg it body [] pos :: rest) ρ En (forT bb kk ys j0) :=
  sg_forI (mw := ret ys) hp hc hi ht (hgi.trans rfl) htt hf hl hs inj hb hr hfs
/-- an if whose ways assign alone -/
def EnJ {J : Type} (emb : J → Env) : Enz J where
  nx := fun ρ m => ∃ j, m = ret j ∧ Le ρ (emb j)
  rt := fun _ _ => False
  bk := fun _ _ => False
  ct := fun _ _ => False
theorem sg_ifA {J : Type} {t : Expr} {a b : List Stmt} {pos : Pos} {gt : Env → W Bool} {mt : W Bool} {emb : J → Env} {ma mb : W J} {k : J → W γ} (ht : T G X Wx t gt) (hg : gt (bor ρ) = mt) (ha : SG G X Wx a ρ (EnJ emb) ma) (hb : SG G X Wx b ρ (EnJ emb) mb) (hr : ∀ j, SG G X Wx rest (emb j) En (k j)) :
    SG G X Wx (.If t a b pos :: rest) ρ En (bnd mt fun x => bnd (if x = true then ma else mb) k) :=
  weakSs (pss_cons (ps_if ht ha hb) (pss_un hr)) fun Dn σ H ⟨c, n, P, PX, I, q, hgl, hx⟩ => by
    obtain ⟨I2, g2⟩ := I.lend
    subst hg
    refine tT.bnd (f := fun x => bnd (if x = true then ma else mb) k) I2 q (hx.grow g2).x fun b k' S' H' p g I' hx' => ?_
    obtain ⟨I3, g3⟩ := I.back g I'
    have hgl3 := hgl.grow g3
    have hx3 := hx.grow g3
    have hE : GlE G X (EnJ emb) (c.to fun a => S' a ∧ ¬ ownS ρ σ a) H' (fun j k' => k j k' P PX) PX { Dn with nx := fun σ H => ∃ j, tG G X Wx (emb j) En (k j) Dn σ H } := by
      refine ⟨?_, fun _ _ _ _ _ _ _ _ z => z.elim, fun _ _ _ _ _ _ z => z.elim, fun _ _ _ _ _ _ z => z.elim⟩
      rintro ρ' _ k5 σ' S' H' ⟨j, rfl, le⟩ p g I
      exact ⟨j, _, k5, P, PX, I.le le, p, hgl3.grow g, hx3.grow g⟩
    cases b with
    | true => exact iteT ⟨_, k', _, PX, I3, p, hE, hx3⟩
    | false => exact iteF ⟨_, k', _, PX, I3, p, hE, hx3⟩
/-- .. with other ends in its ways -/
def joinK {J γ : Type} (k : J → W γ) : Step J γ → W γ
  | .go j => k j
  | .bk j => k j
  | .out g => ret g
def Enz.join {J : Type} (En : Enz γ) (emb : J → Env) : Enz (Step J γ) where
  nx := fun ρ m => ∃ j, m = ret (.go j) ∧ Le ρ (emb j)
  rt := fun d m => ∃ mg, En.rt d mg ∧ m = bnd mg fun g => ret (.out g)
  bk := fun ρ m => ∃ mg, En.bk ρ mg ∧ m = bnd mg fun g => ret (.out g)
  ct := fun ρ m => ∃ mg, En.ct ρ mg ∧ m = bnd mg fun g => ret (.out g)
end

/-! ### defs -/
/-- a def's own ends -/
def EnT : Enz D := ⟨fun _ m => m = ret .non, fun d m => m = ret d, fun _ _ => False, fun _ _ => False⟩
theorem sg_retT {G : PenK} {X : Cx} {Wx : WX} {ρ : Env} {En : Enz D} {rest : List Stmt} {e : Expr} {pos : Pos} {g : Env → W D} {m : W D} (h : E G X Wx e g) (hg : g (bor ρ) = m) (hr : ∀ d, En.rt d (ret d)) : SG G X Wx (.Return (some e) pos :: rest) ρ En m :=
  sg_retD (r := ret) h hg hr
section
variable {G : PenK} {P : Program} {w : World} {K : PySem.W.Frag} {mg : Str → Option Value} {base : Heap}
/-- THE RULE for a def: its body told by values -/
theorem fn_okGC {k : Nat} {f : Addr} {fd : FuncData} {x qual : Str} {st : Stmt} {N ps : List Str} {m : List SV → W D} {Sh : List SV → Prop} (F : Fun K x qual st f fd) (S : FnScope N ps (defScope st)) (hn : ps.length ≤ N.length) (hm : ∀ args n P PX, m args n P PX → Sh args)
    (body : ∀ args, Sh args → ∀ (cdv : Value) (A : Around) (outer : List PySem.Env) (s : Shared) (H : Hp) (E : XK) (Wx : WX), fd.code = cdv → A.guards = some [] → Room k (A.deeper (envOfC qual (defScope st) s.heap.objs.size f cdv)) → Takes (cxOf (L2.CX P w) P w K mg base N qual (defScope st) f cdv A outer s H E) Wx →
      PassesOwn (model P w) (A.deeper (envOfC qual (defScope st) s.heap.objs.size f cdv)) (envOfC qual (defScope st) s.heap.objs.size f cdv) (cxOf (L2.CX P w) P w K mg base N qual (defScope st) f cdv A outer s H E).xe → SG G (cxOf (L2.CX P w) P w K mg base N qual (defScope st) f cdv A outer s H E) Wx (defBody st) (args ++ List.replicate (N.length - args.length) .un) EnT (m args)) :
    FnG P w K mg base (k + 1) f fd ps (spM G K mg ps.length m) := by
  refine FnG.of_bodyC F S (fun vs H Q E ⟨S, pen, args, n, P, PX, hl, _, _, _, _, r, _⟩ => r.len.trans hl) fun cdv A outer s H vs Q E hcc hg hr ⟨S0, pen, args, n, P0, PX, hl, dom, hp, ht, hmu, r, q, hq, hx⟩ => ?_
  refine ⟨_, body args (hm args n P0 PX q) cdv A outer s H E (fun cls d _ H => E cls d H) hcc hg hr (L2.takes_of rfl rfl rfl rfl) (passes_of rfl), ?_⟩
  refine ⟨⟨S0, H, pen, fun a => H a ≠ none ∧ ¬ S0 a, fun a => n.μ a ≠ none⟩, n, P0, PX, SI.entry (by omega) dom hp ht hmu r, q, ⟨?_, ?_, fun _ _ _ _ _ _ z => z.elim, fun _ _ _ _ _ _ z => z.elim⟩, fun x k σ' ρ' S' H' cls dd p g I r => hx x k S' H' cls dd p (SI.after g I) r⟩
  · rintro ρ' _ k σ' S' H' rfl p g I
    exact hq .non k .non S' H' p (SI.after g I) rfl
  · rintro d _ k v σ' ρ' S' H' rfl p g I r
    exact hq d k v S' H' p (SI.after g I) r
/-- .. whose code is not asked for -/
theorem fn_okG {k : Nat} {f : Addr} {fd : FuncData} {x qual : Str} {st : Stmt} {N ps : List Str} {m : List SV → W D} {Sh : List SV → Prop} (F : Fun K x qual st f fd) (S : FnScope N ps (defScope st)) (hn : ps.length ≤ N.length) (hm : ∀ args n P PX, m args n P PX → Sh args)
    (body : ∀ args, Sh args → ∀ (cdv : Value) (A : Around) (outer : List PySem.Env) (s : Shared) (H : Hp) (E : XK) (Wx : WX), A.guards = some [] → Room k (A.deeper (envOfC qual (defScope st) s.heap.objs.size f cdv)) → Takes (cxOf (L2.CX P w) P w K mg base N qual (defScope st) f cdv A outer s H E) Wx →
      PassesOwn (model P w) (A.deeper (envOfC qual (defScope st) s.heap.objs.size f cdv)) (envOfC qual (defScope st) s.heap.objs.size f cdv) (cxOf (L2.CX P w) P w K mg base N qual (defScope st) f cdv A outer s H E).xe → SG G (cxOf (L2.CX P w) P w K mg base N qual (defScope st) f cdv A outer s H E) Wx (defBody st) (args ++ List.replicate (N.length - args.length) .un) EnT (m args)) :
    FnG P w K mg base (k + 1) f fd ps (spM G K mg ps.length m) :=
  fn_okGC F S hn hm fun args hs cdv A outer s H E Wx _ => body args hs cdv A outer s H E Wx
end
end PL

/-! Expressions whose mirrors reduce by themselves; statements by values. -/
namespace PL
open PySem PySem.Spec L2 PyProof.Rows

section
variable {α β : Type}
/-- a test of two parts -/
def andB (m k : W Bool) : W Bool := bnd m fun x => if x = true then k else ret false
def orB (m k : W Bool) : W Bool := bnd m fun x => if x = true then ret true else k
def andD (m k : W D) : W D := bnd m fun x => bnd (tru x) fun b => if b = true then k else ret x
theorem orB_ret (a b : Bool) : orB (ret a) (ret b) = ret (a || b) := by cases a <;> rfl
theorem andB_t (k : W Bool) : andB (ret true) k = k := rfl
theorem andB_f (k : W Bool) : andB (ret false) k = ret false := rfl
theorem andD_t (k : W D) : andD (ret (.bl true)) k = k := rfl
theorem andD_f (k : W D) : andD (ret (.bl false)) k = ret (.bl false) := rfl
theorem thenB_bl (a b : Bool) : thenB (ret (.bl a)) (ret (.bl b)) = ret (.bl (a && b)) := by cases a <;> rfl

def intI : D → W Int
  | .int i => ret i
  | _ => stuck
def lenI : D → W Int
  | .lst xs => ret xs.length
  | .tup xs => ret xs.length
  | .str x => ret x.length
  | .dic kvs => ret kvs.length
  | _ => stuck
def fdivI (i j : Int) : W Int := grd (CDiv i j) (ret (i / j))
def modI (i j : Int) : W Int := grd (0 < j) (ret (i % j))
def addS (a b : Str) : W Str := grd (a.length + b.length ≤ sizeLine) (ret (a ++ b))
def addL (a b : List D) : W (List D) := grd (a.length + b.length ≤ sizeLine) (ret (a ++ b))
def eqB (a b : D) : W Bool := grd (eqQ a b) (ret (PyData.eqv (py a) (py b)))
def neB (a b : D) : W Bool := grd (eqQ a b) (ret (!PyData.eqv (py a) (py b)))
/-- a draw below b -/
def drw (b : Int) : W Int := fun n P _ => n.n < drawMax ∧ 0 < b ∧ b < 1073741824 ∧ ∀ r k, 0 ≤ r → r < b → n.n ≤ k → k ≤ n.n + 1 → P r ⟨k, n.μ⟩
/-- a call without the source of draws -/
def cl (m : W D) : W D := fun n P PX => m ⟨0, n.μ⟩ (fun d k => P d ⟨n.n, k.μ⟩) fun x k => PX x ⟨n.n, k.μ⟩
theorem cl_ret (d : D) : cl (ret d) = ret d := rfl
def unp2 : D → W (D × D)
  | .tup [a, b] => ret (a, b)
  | .lst [a, b] => ret (a, b)
  | _ => stuck
def unp3 : D → W (D × D × D)
  | .tup [a, b, c] => ret (a, b, c)
  | .lst [a, b, c] => ret (a, b, c)
  | _ => stuck
theorem setT_tp2 (i j : Nat) (x : D) (ρ : Env) : setT (.tp [.nm i, .nm j]) x ρ = bnd (unp2 x) fun p => ret ((ρ.set i (.d p.1)).set j (.d p.2)) := by
  cases x with
  | tup xs =>
    match xs with
    | [] => funext n P X; exact propext ⟨fun h => (by have q := h.1; simp at q), fun h => False.elim h⟩
    | [a] => funext n P X; exact propext ⟨fun h => (by have q := h.1; simp at q), fun h => False.elim h⟩
    | [a, b] => exact grd_pos rfl _
    | a :: b :: c :: l => funext n P X; exact propext ⟨fun h => (by have q := h.1; simp at q), fun h => False.elim h⟩
  | lst xs =>
    match xs with
    | [] => funext n P X; exact propext ⟨fun h => (by have q := h.1; simp at q), fun h => False.elim h⟩
    | [a] => funext n P X; exact propext ⟨fun h => (by have q := h.1; simp at q), fun h => False.elim h⟩
    | [a, b] => exact grd_pos rfl _
    | a :: b :: c :: l => funext n P X; exact propext ⟨fun h => (by have q := h.1; simp at q), fun h => False.elim h⟩
  | _ => rfl
theorem setT_tp3 (i j l : Nat) (x : D) (ρ : Env) : setT (.tp [.nm i, .nm j, .nm l]) x ρ = bnd (unp3 x) fun p => ret (((ρ.set i (.d p.1)).set j (.d p.2.1)).set l (.d p.2.2)) := by
  cases x with
  | tup xs =>
    match xs with
    | [] => funext n P X; exact propext ⟨fun h => (by have q := h.1; simp at q), fun h => False.elim h⟩
    | [a] => funext n P X; exact propext ⟨fun h => (by have q := h.1; simp at q), fun h => False.elim h⟩
    | [a, b] => funext n P X; exact propext ⟨fun h => (by have q := h.1; simp at q), fun h => False.elim h⟩
    | [a, b, c] => exact grd_pos rfl _
    | a :: b :: c :: d :: l => funext n P X; exact propext ⟨fun h => (by have q := h.1; simp at q), fun h => False.elim h⟩
  | lst xs =>
    match xs with
    | [] => funext n P X; exact propext ⟨fun h => (by have q := h.1; simp at q), fun h => False.elim h⟩
    | [a] => funext n P X; exact propext ⟨fun h => (by have q := h.1; simp at q), fun h => False.elim h⟩
    | [a, b] => funext n P X; exact propext ⟨fun h => (by have q := h.1; simp at q), fun h => False.elim h⟩
    | [a, b, c] => exact grd_pos rfl _
    | a :: b :: c :: d :: l => funext n P X; exact propext ⟨fun h => (by have q := h.1; simp at q), fun h => False.elim h⟩
  | _ => rfl
/-- parts in a row -/
def bndL : List (W D) → (List D → W β) → W β
  | [], f => f []
  | m :: ms, f => bnd m fun x => bndL ms fun xs => f (x :: xs)
theorem bndL_bnd : ∀ (ms : List (W D)) (f : List D → W α) (k : α → W β), bnd (bndL ms f) k = bndL ms fun xs => bnd (f xs) k
  | [], _, _ => rfl
  | m :: ms, f, k => by
    show bnd m (fun x => bnd (bndL ms fun xs => f (x :: xs)) k) = bnd m _
    congr 1
    funext x
    exact bndL_bnd ms _ k
theorem bndL_len : ∀ (ms : List (W D)) {f f' : List D → W β}, (∀ xs, xs.length = ms.length → f xs = f' xs) → bndL ms f = bndL ms f'
  | [], _, _, h => h [] rfl
  | m :: ms, f, f', h => by
    show bnd m _ = bnd m _
    congr 1
    funext x
    exact bndL_len ms fun xs e => h (x :: xs) (by simp [e])
/-- a comprehension -/
def optK (k : D → W β) (m : W β) : Option D → W β
  | some y => k y
  | none => m
def compP (f : α → W (Option D)) : List α → W (List D)
  | [] => ret []
  | x :: xs => bnd (f x) (optK (fun y => bnd (compP f xs) fun ys => ret (y :: ys)) (compP f xs))
def fewN (n : Nat) (m : W β) : W β := grd (n ≤ sizeLine) m
/-- [f(x) for x in xs] -/
def mapP (f : α → W D) (xs : List α) : W (List D) := fewN xs.length (quiet (compP (fun x => bnd (f x) fun y => ret (some y)) xs))
/-- [f(x) for x in xs if t(x)] -/
def selP (t : α → W Bool) (f : α → W D) (xs : List α) : W (List D) := fewN xs.length (quiet (compP (fun x => bnd (t x) fun k => if k = true then bnd (f x) fun y => ret (some y) else ret none) xs))
theorem compP_map {γ : Type} (h : γ → α) (f : α → W (Option D)) : ∀ xs : List γ, compP f (xs.map h) = compP (fun x => f (h x)) xs
  | [] => rfl
  | x :: xs => by
    show bnd (f (h x)) _ = bnd (f (h x)) _
    rw [compP_map h f xs]
theorem compW_P {t : Tg} {gt : Env → W Bool} {ge : Env → W D} {ρ : Env} : ∀ xs : List D, compW t gt ge ρ xs = compP (fun x => bnd (setT t x ρ) fun ρ' => bnd (gt ρ') fun k => if k = true then bnd (ge ρ') fun y => ret (some y) else ret none) xs
  | [] => rfl
  | x :: xs => by
    show bnd (setT t x ρ) _ = bnd (bnd (setT t x ρ) _) _
    rw [bnd_bnd]
    congr 1
    funext ρ'
    rw [bnd_bnd]
    congr 1
    funext b
    rw [← compW_P xs]
    cases b <;> rfl
end

section
variable {G : PenK} {X : Cx} {Wx : WX}
theorem E.filt {e : Expr} {g : Env → W D} {h : D → W D} (he : E G X Wx e g) (hh : ∀ x k P PX, h x k P PX → P x k) : E G X Wx e (fun ρ => bnd (g ρ) h) :=
  weakE he fun σ H Q ⟨c, ρ, n, P, PX, I, q, hg, hx⟩ => ⟨c, ρ, n, fun x k => h x k P PX, PX, I, q, fun d k v S' H' p g I' r => hg d k v S' H' (hh d k P PX p) g I' r, hx⟩
theorem E.eq {e : Expr} {g g' : Env → W D} (he : E G X Wx e g) (h : g = g') : E G X Wx e g' := h ▸ he
theorem e_asI {e : Expr} {g : Env → W D} (he : E G X Wx e g) : E G X Wx e (fun ρ => bnd (g ρ) fun x => bnd (intI x) fun i => ret (.int i)) :=
  he.filt fun x k P PX h => by cases x <;> first | exact h | exact False.elim h
theorem e_lenI {p pos : Pos} {e : Expr} {g : Env → W D} (hm : X.mg "len" = none) (h : E G X Wx e g) (hg : Gl X "len" := by rfl) (he : starEach [e] X.env = (false, eval e X.env) :: starEach [] X.env := by rfl) :
    E G X Wx (.Call (.Name "len" p) [e] [] pos) (fun ρ => bnd (g ρ) fun x => bnd (lenI x) fun i => ret (.int i)) :=
  (e_len' hm h hg he).eq (by
    have q : lenD = fun x => bnd (lenI x) fun i => ret (.int i) := by funext x; cases x <;> rfl
    rw [q])
/-! ### comparisons of known kinds -/
def eqI : D → D → W D
  | .int i, .int j => ret (.bl (decide (i = j)))
  | _, _ => stuck
def neI : D → D → W D
  | .int i, .int j => ret (.bl (!decide (i = j)))
  | _, _ => stuck
def eqS : D → D → W D
  | .str i, .str j => ret (.bl (i == j))
  | _, _ => stuck
theorem neD_int (i j : Int) : neD (.int i) (.int j) = PL.ret (.bl (!decide (i = j))) := by
  unfold neD
  rw [grd_pos (.inl ⟨rfl, rfl⟩)]
  simp only [py, PyData.eqv]
  rfl
theorem Cm.imp {op : CmpOp} {h h' : D → D → W D} (m : Cm G X Wx op h) (hh : ∀ d e n P PX, h' d e n P PX → h d e n P PX) : Cm G X Wx op h' := by
  obtain ⟨r, o, v⟩ := m
  exact ⟨r, o, fun c σ ρ H n P PX d e v' w Q I rd re q hg hx => v c σ ρ H n P PX d e v' w Q I rd re (hh d e n P PX q) hg hx⟩
theorem cm_eqI (hu : X.A.units + 64 < cLine) : Cm G X Wx .Eq eqI := (cm_eq hu).imp fun d e n P PX h => by
  cases d <;> cases e <;> first | (rw [eqD_int]; exact h) | exact False.elim h
theorem cm_neI (hu : X.A.units + 64 < cLine) : Cm G X Wx .NotEq neI := (cm_ne hu).imp fun d e n P PX h => by
  cases d <;> cases e <;> first | (rw [neD_int]; exact h) | exact False.elim h
/-- a ** b of written numbers -/
theorem e_powC {a b : Expr} {pos : Pos} {i j v : Int} (ha : E G X Wx a (fun _ => ret (.int i))) (hb : E G X Wx b (fun _ => ret (.int j))) (h : CPow i j := by unfold CPow; decide +kernel) (hv : i ^ j.toNat = v := by decide +kernel) : E G X Wx (.BinOp a .Pow b pos) (fun _ => ret (.int v)) :=
  (e_pow ha hb).eq (by
    funext ρ
    show powD (.int i) (.int j) = _
    rw [← hv]
    exact grd_pos h _)
/-! ### displays -/
def AL (G : PenK) (X : Cx) (Wx : WX) (es : List Expr) (gs : List (Env → W D)) : Prop := A G X Wx es (fun ρ => bndL (gs.map fun g => g ρ) ret)
theorem A.eq {es : List Expr} {g g' : Env → W (List D)} (he : A G X Wx es g) (h : g = g') : A G X Wx es g' := h ▸ he
theorem al_nil : AL G X Wx [] [] := a_nil
theorem al_cons {e : Expr} {es : List Expr} {g : Env → W D} {gs : List (Env → W D)} (h : E G X Wx e g) (hs : AL G X Wx es gs) (hp : starEach (e :: es) X.env = (false, eval e X.env) :: starEach es X.env := by rfl) : AL G X Wx (e :: es) (g :: gs) :=
  (a_cons h hs hp).eq (by
    funext ρ
    show bnd (g ρ) (fun x => bnd (bndL (gs.map fun g => g ρ) ret) fun xs => ret (x :: xs)) = bnd (g ρ) fun x => bndL (gs.map fun g => g ρ) fun xs => ret (x :: xs)
    congr 1
    funext x
    rw [bndL_bnd]
    rfl)
theorem bndL_few {β : Type} {ms : List (W D)} {f : List D → W β} (h : ms.length ≤ 1000) : bnd (bndL ms ret) (fun xs => few xs (f xs)) = bndL ms f := by
  rw [bndL_bnd]
  exact bndL_len ms fun xs e => fewS (by omega) _
theorem e_tupL {es : List Expr} {x1 : Nat} {pos : Pos} {gs : List (Env → W D)} (h : AL G X Wx es gs) (hz : gs.length ≤ 1000 := by decide) : E G X Wx (.Tuple es x1 pos) (fun ρ => bndL (gs.map fun g => g ρ) fun xs => ret (.tup xs)) :=
  (e_tup h).eq (by funext ρ; exact bndL_few (by simpa using hz))
theorem EO.eq {e : Expr} {g g' : Env → W (List D)} (he : EO G X Wx e g) (h : g = g') : EO G X Wx e g' := h ▸ he
theorem o_lstL {es : List Expr} {pos : Pos} {gs : List (Env → W D)} (h : AL G X Wx es gs) (hz : gs.length ≤ 1000 := by decide) : EO G X Wx (.List es pos) (fun ρ => bndL (gs.map fun g => g ρ) ret) :=
  (o_lst h).eq (by funext ρ; exact bndL_few (by simpa using hz))
/-! ### comprehensions -/
theorem grd_onB {α : Type} (b : Bool) (m : W α) : grd (b = true) m = onB b m := by
  cases b with
  | true => exact grd_pos rfl m
  | false => funext n P X; exact propext ⟨fun h => (by have q := h.1; simp at q), fun h => False.elim h⟩
/-- what a comprehension's mirror is, over the values that its target takes -/
def compM {α β : Type} (mu : β → W α) (e : α → Env → Env) (vs : List Nat) (gt : Env → W Bool) (ge : Env → W D) (ρ : Env) (xs : List β) : W (List D) :=
  onB (noOwn vs ρ) (fewN xs.length (quiet (compP (fun x => bnd (mu x) fun a => bnd (gt (e a (wip vs ρ))) fun k => if k = true then bnd (ge (e a (wip vs ρ))) fun y => ret (some y) else ret none) xs)))
theorem grd_swap {α : Type} (p q : Prop) (m : W α) : grd p (grd q m) = grd q (grd p m) := by
  funext n P X
  exact propext ⟨fun ⟨a, b, c⟩ => ⟨b, a, c⟩, fun ⟨a, b, c⟩ => ⟨b, a, c⟩⟩
theorem compM_eq {α β : Type} {t : Tg} {f : β → D} {tt : List β → List D} {mu : β → W α} {e : α → Env → Env} (htt : ∀ ys, tt ys = ys.map f) (hs : ∀ x ρ, setT t (f x) ρ = bnd (mu x) fun a => ret (e a ρ)) (vs : List Nat) (gt : Env → W Bool) (ge : Env → W D) (ρ : Env) (ys : List β) :
    few (tt ys) (grd (noOwn vs ρ = true) (quiet (compW t gt ge (wip vs ρ) (tt ys)))) = compM mu e vs gt ge ρ ys := by
  unfold compM few fewN
  rw [grd_swap, grd_onB, compW_P, htt, compP_map, List.length_map]
  simp only [hs, bnd_bnd, bnd_ret]
theorem o_lcQ {α β : Type} {elt tg iter : Expr} {ifs : List Expr} {scope : Scope} {own : List (Str × Nat)} {pos : Pos} {t : Tg} {gy : Env → W (List β)} {tt : List β → List D} {f : β → D} {gt : Env → W Bool} {ge : Env → W D} {mu : β → W α} {ee : α → Env → Env} (htt : ∀ ys, tt ys = ys.map f) (hsT : ∀ x ρ, setT t (f x) ρ = bnd (mu x) fun a => ret (ee a ρ)) (hc : X.calm = true) (hN : X.N.Nodup) (hi : Wk G X Wx tg iter (fun ρ => bnd (gy ρ) fun ys => ret (tt ys))) (ok : BlkOk X.N X.env.scope scope own)
    (hg : ∀ (s : Shared) (H : Hp) (A : Addr) (cl : List (Str × Addr)) (fp : List Addr), PTg (X.blk s H scope (compEnvC scope cl A X.env) fp) tg t) (ht : ∀ (s : Shared) (H : Hp) (A : Addr) (cl : List (Str × Addr)) (fp : List Addr), Ts G (X.blk s H scope (compEnvC scope cl A X.env) fp) ifs gt)
    (he : ∀ (s : Shared) (H : Hp) (A : Addr) (cl : List (Str × Addr)) (fp : List Addr), E G (X.blk s H scope (compEnvC scope cl A X.env) fp) WF elt ge) (hix : ∀ i ∈ t.ix, i ∈ own.map (·.2) := by decide) (hs : ∀ x, foldedSetIterable iter X.env x = pure x := by intro _; rfl) :
    EO G X Wx (.ListComp elt [⟨tg, iter, ifs, 0⟩] scope pos) (fun ρ => bnd (gy ρ) (compM mu ee (own.map (·.2)) gt ge ρ)) :=
  (o_lc hc hN hi ok hg ht he hix hs).eq (by
    funext ρ
    show bnd (bnd (gy ρ) _) _ = _
    rw [bnd_bnd]
    congr 1
    funext xs
    exact compM_eq htt hsT _ _ _ _ _)
/-! ### walks -/
theorem Wk.eq {tg e : Expr} {g g' : Env → W (List D)} (he : Wk G X Wx tg e g) (h : g = g') : Wk G X Wx tg e g' := h ▸ he
def rngZ (lo : Int) (n : Nat) : List Int := (List.range n).map fun i => lo + (i : Nat)
theorem rngZ_map (lo : Int) (n : Nat) : rng lo n = (rngZ lo n).map .int := by
  unfold rng rngZ
  rw [List.map_map]
  rfl
def rngI (i : Int) : W (List Int) := grd (inR i) (ret (rngZ 0 i.toNat))
def rngI2 (i j : Int) : W (List Int) := grd (inR i ∧ inR j) (ret (rngZ i (j - i).toNat))
def rngD : D → W (List Int)
  | .int i => rngI i
  | _ => stuck
def rngD2 : D → D → W (List Int)
  | .int i, .int j => rngI2 i j
  | _, _ => stuck
theorem seqT_map (ys : List D) : (fun ys : List D => ys) ys = ys.map fun y => y := by simp
theorem w_seqZ {tg e : Expr} {g : Env → W D} (h : E G X Wx e g) : Wk G X Wx tg e (fun ρ => bnd (bnd (g ρ) items) fun ys => ret ys) := w_seq h
theorem w_rng1Z {tg e : Expr} {p pos : Pos} {g : Env → W D} (hm : X.mg "range" = none) (h : E G X Wx e g) (hg : Gl X "range" := by rfl) (hs : starEach [e] X.env = [(false, eval e X.env)] := by rfl) : Wk G X Wx tg (.Call (.Name "range" p) [e] [] pos) (fun ρ => bnd (bnd (g ρ) rngD) fun ys => ret (ys.map .int)) :=
  (w_rng1 hm h hg hs).eq (by
    have q : rng1 = fun d => bnd (rngD d) fun ys => ret (ys.map D.int) := by
      funext d
      cases d with
      | int i =>
        show grd _ (ret (rng 0 i.toNat)) = _
        rw [rngZ_map]
        rfl
      | _ => rfl
    rw [q]
    rfl)
def enumZ (i : Nat) : List D → List (Int × D)
  | [] => []
  | x :: xs => ((i : Int), x) :: enumZ (i + 1) xs
def eT (p : Int × D) : D := .tup [.int p.1, p.2]
theorem enumZ_map : ∀ (i : Nat) (xs : List D), enumFrom i xs = (enumZ i xs).map eT
  | _, [] => rfl
  | i, x :: xs => by
    show _ :: enumFrom (i + 1) xs = _ :: _
    rw [enumZ_map (i + 1) xs]
    rfl
def chD (k : Nat) : D := .str ⟨#[k]⟩
def codesD : D → W (List Nat)
  | .str x => ret x.cps.toList
  | _ => stuck
theorem w_strZ {tg e : Expr} {g : Env → W D} (h : E G X Wx e g) : Wk G X Wx tg e (fun ρ => bnd (bnd (g ρ) codesD) fun ys => ret (ys.map chD)) :=
  (w_str h).eq (by
    have q : signs = fun d => bnd (codesD d) fun ys => ret (ys.map chD) := by
      funext d
      cases d <;> rfl
    rw [q]
    rfl)
theorem eT_inj (a b : Int × D) (h : eT a = eT b) : a = b := by
  cases a; cases b
  unfold eT at h
  simp at h
  simp [h]
theorem int_inj (a b : Int) (h : D.int a = D.int b) : a = b := D.int.inj h
theorem lst_inj (a b : List D) (h : D.lst a = D.lst b) : a = b := D.lst.inj h
theorem tup_inj (a b : List D) (h : D.tup a = D.tup b) : a = b := D.tup.inj h
theorem id_inj {α : Type} (a b : α) (h : (fun x : α => x) a = (fun x : α => x) b) : a = b := h
theorem setT_1 (i : Nat) {β : Type} (f : β → D) (x : β) (ρ : Env) : setT (.nm i) (f x) ρ = bnd (ret x) fun a => ret (ρ.set i (.d (f a))) := rfl
theorem setT_e (i j : Nat) (p : Int × D) (ρ : Env) : setT (.tp [.nm i, .nm j]) (eT p) ρ = bnd (ret p) fun p => ret ((ρ.set i (.d (.int p.1))).set j (.d p.2)) := grd_pos rfl _
/-! ### statements by values -/
variable {γ : Type} {En : Enz γ} {ρ : Env} {rest : List Stmt} {m : W γ}
theorem lt_lit {ρ : Env} {i L : Nat} (h : ρ.length = L) (hi : i < L) : i < ρ.length := h ▸ hi
theorem set_inj {α : Type} {f : α → D} {i : Nat} (hi : i < ρ.length) (inj : ∀ a b, f a = f b → a = b) (a b : α) (h : ρ.set i (.d (f a)) = ρ.set i (.d (f b))) : a = b := by
  have q := congrArg (·[i]?) h
  simp only [List.getElem?_set_self hi] at q
  exact inj a b (SV.d.inj (Option.some.inj q))
theorem own_inj {α : Type} {f : α → List D} {i : Nat} (hi : i < ρ.length) (inj : ∀ a b, f a = f b → a = b) (a b : α) (h : ρ.set i (.own (f a)) = ρ.set i (.own (f b))) : a = b := by
  have q := congrArg (·[i]?) h
  simp only [List.getElem?_set_self hi] at q
  exact inj a b (SV.own.inj (Option.some.inj q))
/-- x = e -/
theorem sg_asg {tg e : Expr} {pos : Pos} {g : Env → W D} {α : Type} {m0 : W α} {f : α → D} {k : α → W γ} {ρ' : α → Env} (i L : Nat) (h : E G X Wx e g) (ht : PTg X tg (.nm i)) (hg : g ρ = bnd m0 fun a => ret (f a)) (inj : ∀ a b, f a = f b → a = b) (hL : ρ.length = L) (hi : i < L) (hρ : ∀ a, ρ.set i (.d (f a)) = ρ' a) (hr : ∀ a, SG G X Wx rest (ρ' a) En (k a))
    (h1 : (assignEach [tg] X.env).map (·.2) = [assign tg X.env] := by rfl) (hs : swapsWithSole [tg] e pos.line X.env = pure false := by rfl) (hw : swappedStores [tg] e X.env = pure none := by rfl) : SG G X Wx (.Assign [tg] e pos :: rest) ρ En (bnd m0 k) :=
  sg_stmt (s_asg h ht h1 hs hw) (by rw [hg]; rfl) (set_inj (lt_lit hL hi) inj) fun a => by rw [hρ]; exact hr a
/-- x = e, e known -/
theorem sg_asgP {tg e : Expr} {pos : Pos} {g : Env → W D} {d : D} {ρ' : Env} (i : Nat) (h : E G X Wx e g) (ht : PTg X tg (.nm i)) (hg : g ρ = ret d) (hρ : ρ.set i (.d d) = ρ') (hr : SG G X Wx rest ρ' En m)
    (h1 : (assignEach [tg] X.env).map (·.2) = [assign tg X.env] := by rfl) (hs : swapsWithSole [tg] e pos.line X.env = pure false := by rfl) (hw : swappedStores [tg] e X.env = pure none := by rfl) : SG G X Wx (.Assign [tg] e pos :: rest) ρ En m :=
  sg_stmt (m0 := ret ()) (e := fun _ => ρ.set i (.d d)) (k := fun _ => m) (s_asg h ht h1 hs hw) (by rw [hg]; rfl) (fun _ _ _ => rfl) fun _ => by rw [hρ]; exact hr
/-- a, b = e -/
theorem sg_asg2 {tg e : Expr} {pos : Pos} {g : Env → W D} {α : Type} {m0 : W α} {f1 f2 : α → D} {k : α → W γ} {ρ' : α → Env} (i j L : Nat) (h : E G X Wx e g) (ht : PTg X tg (.tp [.nm i, .nm j])) (hg : bnd (g ρ) unp2 = bnd m0 fun a => ret (f1 a, f2 a)) (inj : ∀ a b, f1 a = f1 b → f2 a = f2 b → a = b) (hL : ρ.length = L) (hi : i < L) (hj : j < L) (hij : j ≠ i) (hρ : ∀ a, (ρ.set i (.d (f1 a))).set j (.d (f2 a)) = ρ' a) (hr : ∀ a, SG G X Wx rest (ρ' a) En (k a))
    (h1 : (assignEach [tg] X.env).map (·.2) = [assign tg X.env] := by rfl) (hs : swapsWithSole [tg] e pos.line X.env = pure false := by rfl) (hw : swappedStores [tg] e X.env = pure none := by rfl) : SG G X Wx (.Assign [tg] e pos :: rest) ρ En (bnd m0 k) :=
  sg_stmt (e := fun a => (ρ.set i (.d (f1 a))).set j (.d (f2 a))) (s_asg h ht h1 hs hw) (by
    have q : (fun d => bnd (setT (.tp [.nm i, .nm j]) d ρ) fun ρ' => ret (Out.nx ρ')) = fun d => bnd (unp2 d) fun p => ret (.nx ((ρ.set i (.d p.1)).set j (.d p.2))) := by
      funext d
      rw [setT_tp2]
      rfl
    rw [q, ← bnd_bnd, hg]
    rfl) (fun a b hab => by
    have q := congrArg (·[j]?) hab
    simp only [List.getElem?_set_self (show j < (ρ.set i (SV.d (f1 a))).length by simp [hL, hj]), List.getElem?_set_self (show j < (ρ.set i (SV.d (f1 b))).length by simp [hL, hj])] at q
    have q2 := congrArg (·[i]?) hab
    simp only [List.getElem?_set_ne hij, List.getElem?_set_self (show i < ρ.length by rw [hL]; exact hi)] at q2
    exact inj a b (SV.d.inj (Option.some.inj q2)) (SV.d.inj (Option.some.inj q))) fun a => by rw [hρ]; exact hr a
/-- a, b, c = e -/
theorem sg_asg3 {tg e : Expr} {pos : Pos} {g : Env → W D} {α : Type} {m0 : W α} {f1 f2 f3 : α → D} {k : α → W γ} {ρ' : α → Env} (i j l L : Nat) (h : E G X Wx e g) (ht : PTg X tg (.tp [.nm i, .nm j, .nm l])) (hg : bnd (g ρ) unp3 = bnd m0 fun a => ret (f1 a, f2 a, f3 a)) (inj : ∀ a b, f1 a = f1 b → f2 a = f2 b → f3 a = f3 b → a = b) (hL : ρ.length = L) (hi : i < L) (hj : j < L) (hl : l < L) (hij : j ≠ i) (hil : l ≠ i) (hjl : l ≠ j) (hρ : ∀ a, ((ρ.set i (.d (f1 a))).set j (.d (f2 a))).set l (.d (f3 a)) = ρ' a) (hr : ∀ a, SG G X Wx rest (ρ' a) En (k a))
    (h1 : (assignEach [tg] X.env).map (·.2) = [assign tg X.env] := by rfl) (hs : swapsWithSole [tg] e pos.line X.env = pure false := by rfl) (hw : swappedStores [tg] e X.env = pure none := by rfl) : SG G X Wx (.Assign [tg] e pos :: rest) ρ En (bnd m0 k) :=
  sg_stmt (e := fun a => ((ρ.set i (.d (f1 a))).set j (.d (f2 a))).set l (.d (f3 a))) (s_asg h ht h1 hs hw) (by
    have q : (fun d => bnd (setT (.tp [.nm i, .nm j, .nm l]) d ρ) fun ρ' => ret (Out.nx ρ')) = fun d => bnd (unp3 d) fun p => ret (.nx (((ρ.set i (.d p.1)).set j (.d p.2.1)).set l (.d p.2.2))) := by
      funext d
      rw [setT_tp3]
      rfl
    rw [q, ← bnd_bnd, hg]
    rfl) (fun a b hab => by
    have q := congrArg (·[l]?) hab
    simp only [List.getElem?_set_self (show l < ((ρ.set i (SV.d (f1 a))).set j (SV.d (f2 a))).length by simp [hL, hl]), List.getElem?_set_self (show l < ((ρ.set i (SV.d (f1 b))).set j (SV.d (f2 b))).length by simp [hL, hl])] at q
    have q1 := congrArg (·[j]?) hab
    simp only [List.getElem?_set_ne hjl, List.getElem?_set_self (show j < (ρ.set i (SV.d (f1 a))).length by simp [hL, hj]), List.getElem?_set_self (show j < (ρ.set i (SV.d (f1 b))).length by simp [hL, hj])] at q1
    have q2 := congrArg (·[i]?) hab
    simp only [List.getElem?_set_ne hil, List.getElem?_set_ne hij, List.getElem?_set_self (show i < ρ.length by rw [hL]; exact hi)] at q2
    exact inj a b (SV.d.inj (Option.some.inj q2)) (SV.d.inj (Option.some.inj q1)) (SV.d.inj (Option.some.inj q))) fun a => by rw [hρ]; exact hr a
/-- x = [..], of one's own -/
theorem sg_own {x : Str} {px pos : Pos} {e : Expr} {g : Env → W (List D)} {m0 : W (List D)} {k : List D → W γ} {ρ' : List D → Env} (i L : Nat) (h : EO G X Wx e g) (hN : X.N.Nodup) (hg : g ρ = m0) (hL : ρ.length = L) (hiL : i < L) (hρ : ∀ a, ρ.set i (.own a) = ρ' a) (hr : ∀ a, SG G X Wx rest (ρ' a) En (k a)) (hi : X.N[i]? = some x := by rfl) (hx : Loc X.env.scope x := by first | exact Or.inl rfl | exact Or.inr rfl) (hf : X.fn x = true ∨ X.env.scope.names.lookup x = some .local := by first | exact .inl rfl | exact .inr rfl)
    (hs : swapsWithSole [.Name x px] e pos.line X.env = pure false := by rfl) (hw : swappedStores [.Name x px] e X.env = pure none := by rfl) : SG G X Wx (.Assign [.Name x px] e pos :: rest) ρ En (bnd m0 k) :=
  sg_stmt (s_own i h hN hi hx hf hs hw) (by rw [hg]) (own_inj (f := fun a => a) (lt_lit hL hiL) fun _ _ h => h) fun a => by rw [hρ]; exact hr a
theorem sg_ownP {x : Str} {px pos : Pos} {e : Expr} {g : Env → W (List D)} {d : List D} {ρ' : Env} (i : Nat) (h : EO G X Wx e g) (hN : X.N.Nodup) (hg : g ρ = ret d) (hρ : ρ.set i (.own d) = ρ') (hr : SG G X Wx rest ρ' En m) (hi : X.N[i]? = some x := by rfl) (hx : Loc X.env.scope x := by first | exact Or.inl rfl | exact Or.inr rfl) (hf : X.fn x = true ∨ X.env.scope.names.lookup x = some .local := by first | exact .inl rfl | exact .inr rfl)
    (hs : swapsWithSole [.Name x px] e pos.line X.env = pure false := by rfl) (hw : swappedStores [.Name x px] e X.env = pure none := by rfl) : SG G X Wx (.Assign [.Name x px] e pos :: rest) ρ En m :=
  sg_stmt (m0 := ret ()) (e := fun _ => ρ.set i (.own d)) (k := fun _ => m) (s_own i h hN hi hx hf hs hw) (by rw [hg]; rfl) (fun _ _ _ => rfl) fun _ => by rw [hρ]; exact hr
/-- xs.append(e) -/
def roomL {α : Type} (xs : List D) (m : W α) : W α := grd (xs.length < sizeLine) m
theorem app_inj {α : Type} {f : α → D} {xs : List D} (inj : ∀ a b, f a = f b → a = b) (a b : α) (h : xs ++ [f a] = xs ++ [f b]) : a = b := inj a b (by
  have q := List.append_cancel_left h
  exact (List.cons.inj q).1)
theorem sg_app {x : Str} {px pa pc pos : Pos} {e : Expr} {g : Env → W D} {α : Type} {m0 : W α} {f : α → D} {k : α → W γ} {ρ' : α → Env} {xs : List D} (i L : Nat) (h : E G X Wx e g) (hx : ρ[i]? = some (.own xs)) (hg : g ρ = bnd m0 fun a => ret (f a)) (inj : ∀ a b, f a = f b → a = b) (hL : ρ.length = L) (hi : i < L) (hρ : ∀ a, ρ.set i (.own (xs ++ [f a])) = ρ' a) (hr : ∀ a, SG G X Wx rest (ρ' a) En (k a))
    (hN : X.N[i]? = some x := by rfl) (hv : Vis X.env.scope x := by first | exact Or.inl rfl | exact Or.inr (Or.inl rfl) | exact Or.inr (Or.inr rfl)) (hd : (x == ("__debug__" : Str)) = false := by decide)
    (hcd : (x == ("__classdict__" : Str)) = false := by decide) (hst : starEach [e] X.env = (false, eval e X.env) :: starEach [] X.env := by rfl)
    (hbase : attributeBase (.Name x px) "append" X.env (eval (.Name x px) X.env) = eval (.Name x px) X.env := by rfl)
    (hfew : ((backTo pc (starEach [e] X.env)).all (fun x => !x.1) && (backToKw pc (keywordEach [] X.env)).all (fun x => x.1.isSome)
      && decide (([e] : List Expr).length + ([] : List Keyword).length + (if ([] : List Keyword).isEmpty then 0 else 1) < 30)) = true := by rfl)
    (hline : (pa.endLine == pc.line) = true := by rfl) (hplain : (backTo pc (starEach [] X.env)).any (·.1) = false := by rfl) (hs : swapsWith (.Call (.Attribute (.Name x px) "append" pa) [e] [] pc) none pos.line X.env = pure false := by rfl) :
    SG G X Wx (.Expr (.Call (.Attribute (.Name x px) "append" pa) [e] [] pc) pos :: rest) ρ En (bnd m0 fun a => roomL xs (k a)) :=
  sg_eq (sg_stmt (m0 := bnd m0 fun a => roomL xs (ret a)) (e := fun a => ρ.set i (.own (xs ++ [f a]))) (k := k) (s_app i h hN hv hd hcd hst hbase hfew hline hplain hs) (by
    unfold ownAt
    rw [hx, hg]
    rfl) (own_inj (f := fun a => xs ++ [f a]) (lt_lit hL hi) (app_inj inj)) fun a => by rw [hρ]; exact hr a) rfl
end
end PL

/-! t[::-1] of a tuple or a list. -/
namespace PL
open PySem PySem.Spec L2 PyProof.Rows

section
variable {prog : Program} {w : World} {A : Around} {E : Value → Shared → Prop} {s : Shared}
theorem adjust_rev (n : Nat) : Builtin.Slice.sliceAdjust none none (-1) (n : Int) = ((n : Int) - 1, -1) := by
  unfold Builtin.Slice.sliceAdjust
  rfl
theorem places_rev (n : Nat) : Builtin.Slice.slicePlaces ((n : Int) - 1) (-1) (-1) = n := by
  unfold Builtin.Slice.slicePlaces
  have h1 : ¬ ((-1 : Int) > 0) := by omega
  simp only [h1, if_false]
  split
  · simp
  · omega
theorem pick_rev (xs : List Value) : ((List.range xs.length).filterMap fun (m : Nat) => xs[(((xs.length : Nat) : Int) - 1 + (m : Int) * -1).toNat]?) = xs.reverse := by
  have h := PySem.W.krv_all xs.reverse.toArray
  have h2 : (List.range xs.length).filterMap (fun m => xs.reverse.toArray[m]?) = xs.reverse := by simpa using h
  rw [← h2]
  have key : ∀ l : List Nat, (∀ m ∈ l, m < xs.length) → l.filterMap (fun (m : Nat) => xs[(((xs.length : Nat) : Int) - 1 + (m : Int) * -1).toNat]?) = l.filterMap (fun m => xs.reverse.toArray[m]?) := fun l => by
    induction l with
    | nil => intro _; rfl
    | cons m l ih =>
      intro hl
      have hm := hl m List.mem_cons_self
      have e : xs[(((xs.length : Nat) : Int) - 1 + (m : Int) * -1).toNat]? = xs.reverse.toArray[m]? := by
        rw [show (((xs.length : Nat) : Int) - 1 + (m : Int) * -1).toNat = xs.length - 1 - m by omega, List.getElem?_toArray, List.getElem?_reverse hm]
      rw [List.filterMap_cons, List.filterMap_cons, e, ih fun k hk => hl k (List.mem_cons_of_mem _ hk)]
  exact key _ fun m hm => List.mem_range.mp hm
theorem sliceApplied_rev {sl : Addr} {t : Tok} {n : Nat} {Q : Int × Int × Nat → Shared → Prop} (hs : s.heap.IsSliceOf sl .none .none (.int (-1) t))
    (h : Q ((n : Int) - 1, -1, n) s) : wpAny (model prog w) A (Builtin.Slice.sliceApplied (.ref sl) (pure (n : Int))) Q E s := by
  obtain ⟨os, hos, hcs, hds⟩ := id hs
  unfold Builtin.Slice.sliceApplied Builtin.Slice.sliceFields
  refine wpAny_bind (wpAny_bind (wpAny_field hos hds (x := .none) rfl (wpAny_bind (wpAny_field hos hds (x := .none) rfl (wpAny_bind (wpAny_field hos hds (x := .int (-1) t) rfl (wpAny_pure ?_)))))))
  refine wpAny_bind (slicePart_int ?_)
  show wpAny _ _ (if ((-1 : Int) == 0) = true then _ else _) _ _ s
  rw [if_neg (by decide)]
  refine wpAny_bind (slicePart_none (wpAny_bind (slicePart_none (wpAny_bind (wpAny_pure ?_)))))
  show wpAny _ _ (match Builtin.Slice.sliceAdjust none none (-1) (n : Int) with | (lo, hi) => pure (lo, (-1 : Int), Builtin.Slice.slicePlaces lo hi (-1))) _ _ s
  rw [adjust_rev n]
  show wpAny _ _ (pure ((n : Int) - 1, (-1 : Int), Builtin.Slice.slicePlaces ((n : Int) - 1) (-1) (-1))) _ _ s
  rw [places_rev]
  exact wpAny_pure h
theorem getItem_tuple_rev {t sl : Addr} {u : Tok} {items : Array Value} {Q : Value → Shared → Prop} (ht : IsTup s.heap t items) (hs : s.heap.IsSliceOf sl .none .none (.int (-1) u))
    (h : Q (.ref s.heap.objs.size) { s with heap := s.heap.push { cls := .type "tuple", data := .seq items.toList.reverse.toArray } })
    (hsz : items.size ≤ sizeLine) : wpAny (model prog w) A (getItem (.ref t) (.ref sl)) Q E s := by
  have htake : sizeOk (.seq items.toList.reverse.toArray) := by
    show items.toList.reverse.toArray.size ≤ sizeLine
    rw [List.size_toArray, List.length_reverse, Array.length_toList]
    exact hsz
  obtain ⟨os, hos, hcs, hds⟩ := id hs
  have hTs : s.TypeIs (.ref sl) "slice" := ⟨os, hos, hcs⟩
  unfold getItem
  try with_reducible refine wpAny_holding ?_
  first | refine wpAny_bind (wpAny_pure ?_) | skip
  refine wpAny_bind (wpAny_sequenceKey ht.typeIs (by decide) ?_)
  refine wpAny_bind (wpAny_callSpecial?_slot (name := Str.ofString "__getitem__") ht.typeIs PyProof.Rows.slot_tuple_getitem
    (wpAny_call_entry PyProof.Rows.slot_tuple_getitem ht.typeIs PyProof.Rows.entry_tuple_getitem ?_ (PyProof.Rows.args_tuple_getitem _ _)))
  show wpAny _ _ (Builtin.Tuple.tupleItemsOf (.ref t) >>= _) _ _ s
  refine wpAny_bind (PyProof.Rows.tupleItemsOf_ ht ?_)
  refine wpAny_bind (wpAny_typeOf hTs ?_)
  rw [if_pos (by decide)]
  refine wpAny_bind (sliceApplied_rev hs ?_)
  have hno : ¬ ((((items.size : Int) - 1) == 0 && (-1 : Int) == 1 && items.size == items.size) = true) := by
    intro q
    rw [Bool.and_eq_true, Bool.and_eq_true] at q
    exact absurd q.1.2 (by decide)
  show wpAny _ _ (if (((items.size : Int) - 1) == 0 && (-1 : Int) == 1 && items.size == items.size) = true then _ else _) _ _ s
  rw [if_neg hno]
  have ep : ((List.range items.size).filterMap fun (m : Nat) => items[(((items.size : Nat) : Int) - 1 + (m : Int) * -1).toNat]?).toArray = items.toList.reverse.toArray := by
    have q := pick_rev items.toList
    rw [Array.length_toList] at q
    rw [← q]
    simp only [Array.getElem?_toList]
  rw [ep]
  first
    | exact wpAny_bind (m := Builtin.Tuple.tupleExact _) (wpAny_newObj_type (wpAny_pure ⟨_, rfl, wpAny_pure h⟩) htake)
    | exact wpAny_bind (m := Builtin.Tuple.tupleExact _) (wpAny_newObj_type (wpAny_bind (wpAny_pure (wpAny_pure ⟨_, rfl, wpAny_pure h⟩))) htake)
    | exact wpAny_bind (wpAny_bind (m := Builtin.Tuple.tupleExact _) (wpAny_newObj_type (wpAny_pure (wpAny_pure ⟨_, rfl, wpAny_pure h⟩)) htake))
    | exact wpAny_bind (wpAny_bind (m := Builtin.Tuple.tupleExact _) (wpAny_newObj_type (wpAny_pure ⟨_, rfl, wpAny_pure h⟩) htake))
end
def tRev (K : PySem.W.Frag) (te : TE) : TE := fun σ H Q => te σ H fun x H1 => (∃ a xs, x = .ref a ∧ SqL K H1 a xs ∧ ∀ p, H1 p = none → Q (.ref p) (upd H1 p (.lst xs.reverse))) ∨ ∃ a xs, x = .ref a ∧ SqT K H1 a xs ∧ NewT H1 xs.reverse Q
theorem pe_rev {X : Cx} {e : Expr} {te : TE} {k : Nat} {p1 p2 p3 pos : Pos} (he : PE X e te) : PE X (.Subscript e (.Slice none none (some (.UnaryOp .USub (.Constant (.int 1) k p1) p2)) p3) pos) (tRev X.K te) := by
  refine ⟨fun pins s σ H Q I h => ?_⟩
  refine Subscript_ (thn (he.run pins s σ H _ I h) fun v s1 ⟨x, H1, I1, r1, q1⟩ => ?_)
  have hst : PO X (some (.UnaryOp .USub (.Constant (.int 1) k p1) p2)) (tPart (tUn (rU fun i => .int (-i)) (tC (.int 1)))) := po_some (pe_un un_neg pe_int)
  refine wpAny_Slice (thn (po_none.run pins s1 σ H1 (fun o H2 => o = none ∧ H2 = H1) I1 ⟨rfl, rfl⟩) fun vl s2 ⟨l, H2, I2, pl, el, e2⟩ => ?_)
  subst el e2
  refine thn (po_none.run pins s2 σ H2 (fun o H3 => o = none ∧ H3 = H2) I2 ⟨rfl, rfl⟩) fun vu s3 ⟨u, H3, I3, pu, eu, e3⟩ => ?_
  subst eu e3
  refine thn (hst.run pins s3 σ H3 (fun o H4 => o = some (-1) ∧ H4 = H3) I3 ⟨1, rfl, -1, rfl, rfl, rfl⟩) fun vs s4 ⟨o, H4, I4, ps, eo, e4⟩ => ?_
  subst eo e4
  rcases q1 with ⟨a, xs, ex, hx, q⟩ | ⟨a, xs, ex, hx, q⟩
  · subst ex
    cases r1
    have I5 : Inv X pins σ H4 { s4 with heap := s4.heap.push { cls := .type "slice", data := .fields #[vl, vu, vs] } } := I4.kept (t' := s4.toks) fun b ob q => Heap.get?_push_of_some _ q
    obtain ⟨its, r, ht, hz⟩ := I5.list hx
    have hlen := r.length
    show wpAny (model X.prog X.w) X.A (subscriptTail e (.Slice none none (some (.UnaryOp .USub (.Constant (.int 1) k p1) p2)) p3) (.ref a) (.ref s4.heap.objs.size)) (EP X pins σ Q) X.xe { s4 with heap := s4.heap.push { cls := .type "slice", data := .fields #[vl, vu, vs] } }
    refine tail_any (ops := [.ref a, .ref s4.heap.objs.size]) ht.isList.typeIs (PySem.slot_list_getitem.lookup) ?_ (by with_unfolding_all rfl)
    refine wpAny_getItem_list_slice ht.isList (Heap.IsSliceOf.new _ vl vu vs) pl pu ps (by decide) ?_ (by rw [List.size_toArray]; omega)
    rw [PySem.W.krv_pick]
    refine ⟨.ref _, _, I5.laid (t' := s4.toks) (o := .lst xs.reverse) (fun b ob q => Heap.get?_push_of_some _ q) (Nat.le_refl _) ?_, rfl, q _ (I5.hok.fresh (Nat.le_refl _))⟩
    exact ⟨by rw [List.length_reverse]; exact hz, _, 0, r.reverse, Heap.get?_push_size _ rfl⟩
  · subst ex
    cases r1
    cases pl
    cases pu
    cases ps with
    | int i t =>
    have I5 : Inv X pins σ H4 { s4 with heap := s4.heap.push { cls := .type "slice", data := .fields #[.none, .none, .int (-1) t] } } := I4.kept (t' := s4.toks) fun b ob q => Heap.get?_push_of_some _ q
    obtain ⟨its, r, ht, hz⟩ := I5.tuple hx
    have hlen := r.length
    show wpAny (model X.prog X.w) X.A (subscriptTail e (.Slice none none (some (.UnaryOp .USub (.Constant (.int 1) k p1) p2)) p3) (.ref a) (.ref s4.heap.objs.size)) (EP X pins σ Q) X.xe { s4 with heap := s4.heap.push { cls := .type "slice", data := .fields #[.none, .none, .int (-1) t] } }
    refine tail_any (ops := [.ref a, .ref s4.heap.objs.size]) ht.typeIs (PyProof.Rows.slot_tuple_getitem.lookup) ?_ (by with_unfolding_all rfl)
    refine getItem_tuple_rev ht (Heap.IsSliceOf.new _ _ _ _) ?_ (by rw [List.size_toArray]; omega)
    exact newT I5 r.reverse (by rw [List.length_reverse]; exact hz) q
def revD : D → W D
  | .lst xs => ret (.lst xs.reverse)
  | .tup xs => ret (.tup xs.reverse)
  | _ => stuck
section
variable {G : PenK} {X : Cx} {Wx : WX}
theorem e_rev {e : Expr} {g : Env → W D} {k : Nat} {p1 p2 p3 pos : Pos} (he : E G X Wx e g) : E G X Wx (.Subscript e (.Slice none none (some (.UnaryOp .USub (.Constant (.int 1) k p1) p2)) p3) pos) (fun ρ => bnd (g ρ) revD) :=
  weakE (pe_rev he) fun σ H Q ⟨c, ρ, n, P, PX, I, q, hg, hx⟩ => tE.bnd I q hx fun d k v S' H' p g I' hx' r => by
    cases d with
    | lst xs =>
      obtain ⟨a, vs, rfl, r1, z, q1⟩ := r
      exact .inl ⟨a, vs, rfl, r1.sq, fun b hb => (hg.grow g).new p I' hb fun g4 => ⟨b, _, rfl, ⟨.inr rfl, upd_same⟩, by rw [List.length_reverse]; exact z, Reps.grow g4 _ _ (Reps.rev q1)⟩⟩
    | tup xs =>
      obtain ⟨a, vs, rfl, r1, z, q1⟩ := r
      exact .inr ⟨a, vs, rfl, r1.sq, fun b o hb hd => (hg.grow g).new p I' hb fun g4 => ⟨b, _, rfl, .inl ⟨.inr rfl, o, upd_same, hd⟩, by rw [List.length_reverse]; exact z, Reps.grow g4 _ _ (Reps.rev q1)⟩⟩
    | _ => exact p.elim
end
end PL

/-! Dicts of one's own, their keys; sorted texts; repeated lists. -/
namespace PL
open PySem PySem.Spec L2 PyProof.Rows

/-! ### pairs by key -/
def valD (kvs : List (Key × D)) (k : Key) : Option D := (kvs.find? fun kv => decide (kv.1 = k)).map (·.2)
def putD (kvs : List (Key × D)) (k : Key) (v : D) : List (Key × D) :=
  if (kvs.any fun kv => decide (kv.1 = k)) = true then kvs.map (fun kv => if kv.1 = k then (kv.1, v) else kv) else kvs ++ [(k, v)]
def keyD : D → Option Key
  | .int i => some (.inl i)
  | .str s => some (.inr s)
  | _ => none
def keyV : Key → D
  | .inl i => .int i
  | .inr s => .str s
section
variable {K : PySem.W.Frag} {S : Addr → Prop} {H : Hp}
theorem RepK.find : ∀ {kvs : List (Key × D)} {kws : List (Key × V)} (k : Key), RepK K S H kvs kws → (valD kvs k = none ∧ valV kws k = none) ∨ ∃ x v, valD kvs k = some x ∧ valV kws k = some v ∧ Rep K S H x v
  | [], _, k, h => by
    have e : _ = [] := h
    rw [e]
    exact .inl ⟨rfl, rfl⟩
  | (j, x) :: xs, _, k, h => by
    obtain ⟨v, ws, rfl, r, q⟩ := h
    by_cases e : j = k
    · refine .inr ⟨x, v, ?_, ?_, r⟩
      · simp [valD, List.find?_cons, e]
      · simp [valV, List.find?_cons, e]
    · have ih := RepK.find k q
      have e1 : valD ((j, x) :: xs) k = valD xs k := by simp [valD, List.find?_cons, e]
      have e2 : valV ((j, v) :: ws) k = valV ws k := by simp [valV, List.find?_cons, e]
      rw [e1, e2]
      exact ih
theorem RepK.any : ∀ {kvs : List (Key × D)} {kws : List (Key × V)} (k : Key), RepK K S H kvs kws → (kvs.any fun kv => decide (kv.1 = k)) = kws.any fun kv => decide (kv.1 = k)
  | [], _, k, h => by
    have e : _ = [] := h
    rw [e]
    rfl
  | (j, x) :: xs, _, k, h => by
    obtain ⟨v, ws, rfl, r, q⟩ := h
    rw [List.any_cons, List.any_cons, RepK.any k q]
def setK1 {α : Type} (k : Key) (x : α) : List (Key × α) → List (Key × α)
  | [] => []
  | (j, y) :: r => (if j = k then (j, x) else (j, y)) :: setK1 k x r
theorem setK1_eq {α : Type} (k : Key) (x : α) : ∀ l : List (Key × α), l.map (fun kv => if kv.1 = k then (kv.1, x) else kv) = setK1 k x l
  | [] => rfl
  | (j, y) :: r => by
    rw [List.map_cons, setK1_eq k x r]
    rfl
theorem RepK.mapP : ∀ {kvs : List (Key × D)} {kws : List (Key × V)} (k : Key) {x : D} {v : V}, RepK K S H kvs kws → Rep K S H x v → RepK K S H (setK1 k x kvs) (setK1 k v kws)
  | [], _, k, x, v, h, _ => by
    have e : _ = [] := h
    rw [e]
    rfl
  | (j, y) :: xs, _, k, x, v, h, rx => by
    obtain ⟨w, ws, rfl, r, q⟩ := h
    have ih := RepK.mapP k q rx
    unfold setK1
    by_cases e : j = k
    · rw [if_pos e, if_pos e]
      exact ⟨v, _, rfl, rx, ih⟩
    · rw [if_neg e, if_neg e]
      exact ⟨w, _, rfl, r, ih⟩
theorem RepK.app : ∀ {xs ys : List (Key × D)} {vs ws : List (Key × V)}, RepK K S H xs vs → RepK K S H ys ws → RepK K S H (xs ++ ys) (vs ++ ws)
  | [], ys, vs, ws, h, q => by
    have e : vs = [] := h
    rw [e]
    exact q
  | (k, x) :: xs, ys, vs, ws, h, q => by
    obtain ⟨v, us, rfl, r, t⟩ := h
    exact ⟨v, us ++ ws, rfl, r, RepK.app t q⟩
theorem RepK.put {kvs : List (Key × D)} {kws : List (Key × V)} (k : Key) {x : D} {v : V} (h : RepK K S H kvs kws) (r : Rep K S H x v) : RepK K S H (putD kvs k x) (putK kws k v) := by
  unfold putD putK
  rw [RepK.any k h]
  split
  · rw [setK1_eq, setK1_eq]
    exact RepK.mapP k h r
  · exact RepK.app h ⟨v, [], rfl, r, rfl⟩
theorem RepK.keys : ∀ {kvs : List (Key × D)} {kws : List (Key × V)}, RepK K S H kvs kws → (∀ kv ∈ kvs, ∀ s, kv.1 = .inr s → s.length ≤ sizeLine) → Reps K S H (kvs.map fun kv => keyV kv.1) (kws.map fun kv => kV kv.1)
  | [], _, h, _ => by
    have e : _ = [] := h
    rw [e]
    exact Reps.nil
  | (k, x) :: xs, _, h, hz => by
    obtain ⟨v, ws, rfl, r, q⟩ := h
    refine Reps.cons ?_ (RepK.keys q fun kv hk => hz kv (List.mem_cons_of_mem _ hk))
    cases k with
    | inl i => exact rfl
    | inr s => exact ⟨rfl, hz _ List.mem_cons_self s rfl⟩
theorem keyD_rep {d : D} {v : V} {k : Key} (h : keyD d = some k) (r : Rep K S H d v) : v = kV k := by
  cases d with
  | int i => cases h; exact r
  | str s => cases h; exact r.1
  | _ => cases h
end

/-! ### a name takes a new dict; a dict of one's own is changed -/
section
variable {G : PenK} {K : PySem.W.Frag} {c : C} {σ : L2.St} {ρ : Env} {H H' : Hp} {n k : Nt} {S' : Addr → Prop}
theorem SI.setK {i : Nat} {xs : List (Key × D)} {a : Addr} {vs : List (Key × V)} (I : SI G K c σ H ρ n) (e1 : H a = some (.dK vs)) (r : RepK K c.S H xs vs) (y : Young c n a)
    (f : ∀ j sv, i ≠ j → ρ[j]? = some sv → sv.isOwn = true → slot σ j ≠ some (.ref a)) : SI G K c (σ.set i (some (.ref a))) H (ρ.set i (.ownK xs)) n := by
  have key : ∀ j sv, (ρ.set i (.ownK xs))[j]? = some sv → (j = i ∧ sv = .ownK xs ∧ slot (σ.set i (some (.ref a))) j = some (.ref a)) ∨ (i ≠ j ∧ ρ[j]? = some sv ∧ slot (σ.set i (some (.ref a))) j = slot σ j) := fun j sv e => by
    by_cases h : i = j
    · subst h
      have hl : i < ρ.length := by
        have := (List.getElem?_eq_some_iff.mp e).1
        rwa [List.length_set] at this
      rw [List.getElem?_set_self hl] at e
      exact .inl ⟨rfl, (Option.some.inj e).symm, slot_set_same (I.len ▸ hl)⟩
    · rw [List.getElem?_set_ne h] at e
      exact .inr ⟨h, e, slot_set_ne h⟩
  refine ⟨by rw [List.length_set, List.length_set, I.len], fun j sv e => ?_, fun j sv b e ho es => ?_, fun j k sv sv' b hn e e' ho ho' es es' => ?_, I.dom, I.fr, I.pen, I.no, I.tab, I.mu, I.mu0, I.mz⟩
  · rcases key j sv e with ⟨_, rfl, h⟩ | ⟨_, h, h2⟩
    · exact ⟨a, vs, h, e1, r⟩
    · rw [h2]; exact I.slots j sv h
  · rcases key j sv e with ⟨_, rfl, h⟩ | ⟨_, h, h2⟩
    · rw [h] at es; cases es; exact y
    · exact I.own j sv b h ho (h2 ▸ es)
  · rcases key j sv e with ⟨h0, rfl, h⟩ | ⟨_, h, h2⟩
    · rcases key k sv' e' with ⟨h0', rfl, h'⟩ | ⟨_, h', h2'⟩
      · exact hn (h0.trans h0'.symm)
      · rw [h] at es; cases es
        exact f k sv' (h0 ▸ hn) h' ho' (h2' ▸ es')
    · rcases key k sv' e' with ⟨h0', rfl, h'⟩ | ⟨_, h', h2'⟩
      · rw [h'] at es'; cases es'
        exact f j sv (fun q => hn (q ▸ h0'.symm)) h ho (h2 ▸ es)
      · exact I.apart j k sv sv' b hn h h' ho ho' (h2 ▸ es) (h2' ▸ es')
theorem SI.mutK {i : Nat} {xs ys : List (Key × D)} {a : Addr} {vs : List (Key × V)} (I : SI G K c σ H ρ n) (e : ρ[i]? = some (.ownK xs)) (es : slot σ i = some (.ref a)) (r : RepK K c.S H ys vs) :
    SI G K c σ (upd H a (.dK vs)) (ρ.set i (.ownK ys)) n ∧ Grow c.S c.S H (upd H a (.dK vs)) := by
  obtain ⟨y1, y2, y3⟩ := I.own i _ a e rfl es
  have hl : i < ρ.length := (List.getElem?_eq_some_iff.mp e).1
  have g : Grow c.S c.S H (upd H a (.dK vs)) := ⟨fun _ q => q, fun b q => upd_ne fun z => y1 (z ▸ q)⟩
  have key : ∀ j sv, (ρ.set i (.ownK ys))[j]? = some sv → (j = i ∧ sv = .ownK ys) ∨ (i ≠ j ∧ ρ[j]? = some sv) := fun j sv e => by
    by_cases h : i = j
    · subst h
      rw [List.getElem?_set_self hl] at e
      exact .inl ⟨rfl, (Option.some.inj e).symm⟩
    · rw [List.getElem?_set_ne h] at e
      exact .inr ⟨h, e⟩
  refine ⟨⟨by rw [List.length_set, I.len], fun j sv e2 => ?_, fun j sv b e2 ho es2 => ?_, fun j k sv sv' b hn e1 e2 ho ho' es1 es2 => ?_, fun b q => ?_, fun b o e2 hn => ?_, fun p e2 => ?_, I.no, fun q e => ⟨(I.tab q e).1, (I.tab q e).2.grow g (upd_ne fun z => (I.tabN e).2.1 (z ▸ y2))⟩, fun b nd e => ⟨(I.mu b nd e).1.grow g (upd_ne fun z => (by rw [z, y3] at e; cases e)), (I.mu b nd e).2⟩, I.mu0, I.mz⟩, g⟩
  · rcases key j sv e2 with ⟨rfl, rfl⟩ | ⟨hn, h⟩
    · exact ⟨a, vs, es, upd_same, RepK.grow g _ _ r⟩
    · exact (I.slots j sv h).grow g fun b eb ho => upd_ne fun q => I.apart i j _ sv a hn e h rfl ho es (q ▸ eb)
  · rcases key j sv e2 with ⟨rfl, rfl⟩ | ⟨hn, h⟩
    · exact I.own j _ b e rfl es2
    · exact I.own j sv b h ho es2
  · rcases key j sv e1 with ⟨rfl, rfl⟩ | ⟨hn1, h1⟩
    · rcases key k sv' e2 with ⟨rfl, rfl⟩ | ⟨hn2, h2⟩
      · exact hn rfl
      · exact I.apart j k _ sv' b hn e h2 rfl ho' es1 es2
    · rcases key k sv' e2 with ⟨rfl, rfl⟩ | ⟨hn2, h2⟩
      · exact I.apart j k sv _ b hn h1 e ho rfl es1 es2
      · exact I.apart j k sv sv' b hn h1 h2 ho ho' es1 es2
  · rw [g.eq b q]; exact I.dom b q
  · have q := I.fr b o e2 hn
    rw [upd_ne fun z => by rw [z, y2] at e2; cases e2]
    exact q
  · obtain ⟨h1, h2, h3, h4, h5⟩ := I.pen p e2
    exact ⟨G.dep h1 (upd_ne fun z => h4 (z ▸ y2)) (upd_ne fun z => h5 (z ▸ y2)), h2, h3, h4, h5⟩
/-- a new object, at nobody's hands -/
theorem SI.bare {a : Addr} {o : HO} (I : SI G K c σ H ρ n) (hp : H a = none) : SI G K c σ (upd H a o) ρ n ∧ Grow c.S c.S H (upd H a o) ∧ FreshAt c n σ ρ a := by
  have ne : ∀ b, H b ≠ none → b ≠ a := fun b q e => q (e ▸ hp)
  have g : Grow c.S c.S H (upd H a o) := ⟨fun _ q => q, fun b q => upd_ne (ne b (I.dom b q))⟩
  refine ⟨⟨I.len, fun i sv e => (I.slots i sv e).grow g fun b eb ho => upd_ne (ne b (I.own_there ⟨i, sv, e, ho, eb⟩)), I.own, I.apart, fun b q => by rw [upd_ne (ne b (I.dom b q))]; exact I.dom b q,
    fun b u e q => by
      have := I.fr b u e q
      rw [upd_ne (ne b (by rw [this]; exact fun z => nomatch z))]
      exact this, fun q e => by
      obtain ⟨h1, h2, h3, h4, h5⟩ := I.pen q e
      obtain ⟨k1, k2⟩ := G.there h1
      exact ⟨G.dep h1 (upd_ne (ne _ k1)) (upd_ne (ne _ k2)), h2, h3, h4, h5⟩, I.no, fun q e => ⟨(I.tab q e).1, (I.tab q e).2.grow g (upd_ne (ne _ (I.tabN e).2.2))⟩, fun b nd e => ⟨(I.mu b nd e).1.grow g (upd_ne (ne _ (I.mu b nd e).1.there)), (I.mu b nd e).2⟩, I.mu0, I.mz⟩, g, ⟨⟨fun q => I.dom a q hp, I.freeOld hp, I.freeM hp⟩, fun i sv e ho es => I.own_there ⟨i, sv, e, ho, es⟩ hp⟩⟩
end

/-! ### expressions that give a new dict -/
section
variable (G : PenK) (X : Cx) (Wx : WX)
def GlK (c : C) (σ : L2.St) (ρ : Env) (H : Hp) (P : List (Key × D) → Nt → Prop) (Q : VK) : Prop :=
  ∀ xs k a vs S' H', P xs k → Grow c.S S' H H' → SI G X.K (c.to S') σ H' ρ k → H' a = some (.dK vs) → RepK X.K S' H' xs vs → FreshAt (c.to S') k σ ρ a → Q (.ref a) H'
def tKd (g : Env → W (List (Key × D))) : TE := fun σ H Q => ∃ c ρ n P PX, SI G X.K c σ H ρ n ∧ g ρ n P PX ∧ GlK G X c σ ρ H P Q ∧ OKx G X Wx c σ ρ H PX
def EK (e : Expr) (g : Env → W (List (Key × D))) : Prop := PE X e (tKd G X Wx g)
end
section
variable {G : PenK} {X : Cx} {Wx : WX} {γ : Type} {En : Enz γ} {ρ : Env} {rest : List Stmt} {m : W γ}
theorem EK.e {e : Expr} {g : Env → W (List (Key × D))} (h : EK G X Wx e g) : E G X Wx e (fun ρ => bnd (g ρ) fun xs => ret (.dic xs)) :=
  weakE h fun σ H Q ⟨c, ρ, n, P, PX, I, q, hg, hx⟩ => ⟨c, ρ, n, fun xs k => P (.dic xs) k, PX, I, q, fun xs k a vs S' H' p g I' e r f => by
    obtain ⟨I2, g2⟩ := I'.adopt f (by rw [e]; exact fun z => nomatch z)
    exact hg (.dic xs) k (.ref a) _ H' p (g.trans g2) I2 ⟨a, vs, rfl, ⟨.inr rfl, .inl e⟩, RepK.grow g2 _ _ r⟩, hx⟩
theorem k_new {pos : Pos} : EK G X Wx (.Dict [] [] pos) (fun _ => ret []) :=
  weakE pe_dnewK fun σ H Q ⟨c, ρ, n, P, PX, I, q, hg, hx⟩ p hp => by
    obtain ⟨I2, g2, f⟩ := SI.bare (o := .dK []) I hp
    exact hg [] n p [] c.S _ q g2 I2 upd_same rfl f
/-- x = a new dict of one's own -/
theorem s_ownK {x : Str} {px pos : Pos} {e : Expr} {g : Env → W (List (Key × D))} (i : Nat) (h : EK G X Wx e g) (hN : X.N.Nodup) (hi : X.N[i]? = some x := by rfl) (hx : Loc X.env.scope x := by first | exact Or.inl rfl | exact Or.inr rfl) (hf : X.fn x = true ∨ X.env.scope.names.lookup x = some .local := by first | exact .inl rfl | exact .inr rfl)
    (hs : swapsWithSole [.Name x px] e pos.line X.env = pure false := by rfl) (hw : swappedStores [.Name x px] e X.env = pure none := by rfl) : St1 G X Wx (.Assign [.Name x px] e pos) (fun ρ => bnd (g ρ) fun xs => ret (.nx (ρ.set i (.ownK xs)))) :=
  weakS (ps_asg h (pg_name hN hi hx hf) hs hw) fun Dn σ H ⟨c, ρ, n, P, PX, I, q, hg, hx⟩ => ⟨c, ρ, n, fun xs k => P (.nx (ρ.set i (.ownK xs))) k, PX, I, q, fun xs k a vs S' H' p g I' e r f => hg.1 _ k _ S' H' p g (I'.setK e r f.1 fun j sv _ h1 h2 => f.2 j sv h1 h2), hx.x⟩
theorem ownK_inj {α : Type} {f : α → List (Key × D)} {i : Nat} (hi : i < ρ.length) (inj : ∀ a b, f a = f b → a = b) (a b : α) (h : ρ.set i (.ownK (f a)) = ρ.set i (.ownK (f b))) : a = b := by
  have q := congrArg (·[i]?) h
  simp only [List.getElem?_set_self hi] at q
  exact inj a b (SV.ownK.inj (Option.some.inj q))
theorem sg_dicP {x : Str} {px pos : Pos} {e : Expr} {g : Env → W (List (Key × D))} {d : List (Key × D)} {ρ' : Env} (i : Nat) (h : EK G X Wx e g) (hN : X.N.Nodup) (hg : g ρ = ret d) (hρ : ρ.set i (.ownK d) = ρ') (hr : SG G X Wx rest ρ' En m) (hi : X.N[i]? = some x := by rfl) (hx : Loc X.env.scope x := by first | exact Or.inl rfl | exact Or.inr rfl) (hf : X.fn x = true ∨ X.env.scope.names.lookup x = some .local := by first | exact .inl rfl | exact .inr rfl)
    (hs : swapsWithSole [.Name x px] e pos.line X.env = pure false := by rfl) (hw : swappedStores [.Name x px] e X.env = pure none := by rfl) : SG G X Wx (.Assign [.Name x px] e pos :: rest) ρ En m :=
  sg_stmt (m0 := ret ()) (e := fun _ => ρ.set i (.ownK d)) (k := fun _ => m) (s_ownK i h hN hi hx hf hs hw) (by rw [hg]; rfl) (fun _ _ _ => rfl) fun _ => by rw [hρ]; exact hr
/-- d[k] = v -/
def putW (kvs : List (Key × D)) (k v : D) : W (List (Key × D)) := match keyD k with
  | some kk => grd (kvs.length < sizeLine) (ret (putD kvs kk v))
  | none => stuck
def ownKAt (ρ : Env) (i : Nat) (f : List (Key × D) → W Out) : W Out := match ρ[i]? with
  | some (.ownK xs) => f xs
  | _ => stuck
theorem ownKAt_inv {ρ : Env} {i : Nat} {n : Nt} {f : List (Key × D) → W Out} {P : Out → Nt → Prop} {PX : Exc → Nt → Prop} (h : ownKAt ρ i f n P PX) : ∃ xs, ρ[i]? = some (.ownK xs) ∧ f xs n P PX := by
  unfold ownKAt at h
  cases e : ρ[i]? with
  | none => rw [e] at h; exact False.elim h
  | some sv =>
    rw [e] at h
    cases sv with
    | ownK xs => exact ⟨xs, rfl, h⟩
    | _ => exact False.elim h
theorem s_put {x : Str} {px ps pos : Pos} {k e : Expr} {gk ge : Env → W D} (i : Nat) (hu : X.A.units + 1 < cLine) (hk : E G X Wx k gk) (he : E G X Wx e ge) (hN : X.N[i]? = some x := by rfl) (hv : Vis X.env.scope x := by first | exact Or.inl rfl | exact Or.inr (Or.inl rfl) | exact Or.inr (Or.inr rfl)) (hd : (x == ("__debug__" : Str)) = false := by decide)
    (hcd : (x == ("__classdict__" : Str)) = false := by decide) (hs : swapsWith e (some (.Subscript (.Name x px) k ps)) pos.line X.env = pure false := by rfl) :
    St1 G X Wx (.Assign [.Subscript (.Name x px) k ps] e pos) (fun ρ => ownKAt ρ i fun xs => bnd (bnd (ge ρ) fun v => bnd (gk ρ) fun k => putW xs k v) fun ys => ret (.nx (ρ.set i (.ownK ys)))) :=
  weakS (ps_dput hu (pe_var hN hv hd hcd) hk he hs) fun Dn σ H ⟨c, ρ, n, P, PX, I, q, hg, hx⟩ => by
    obtain ⟨xs, e1, q⟩ := ownKAt_inv q
    obtain ⟨a, vs, e2, e3, r⟩ := I.slots i _ e1
    refine tE.bnd (α := Out) (P := P) (f := fun v => bnd (gk ρ) fun k => bnd (putW xs k v) fun ys => ret (Out.nx (ρ.set i (.ownK ys)))) I q hx.x fun d k0 v S' H' p g I' hx' r' => ⟨.ref a, slot_some e2, tE.bnd (α := Out) (P := P) (f := fun k => bnd (putW xs k d) fun ys => ret (Out.nx (ρ.set i (.ownK ys)))) I' p hx' fun kd k1 kv S2 H2 p2 g2 I2 hx2 rk => ?_⟩
    obtain ⟨a', vs', e4, e5, r2⟩ := I2.slots i _ e1
    rw [e2] at e4
    cases e4
    have p2 : bnd (putW xs kd d) (fun ys => ret (Out.nx (ρ.set i (.ownK ys)))) k1 P PX := p2
    unfold putW at p2
    cases ek : keyD kd with
    | none => rw [ek] at p2; exact False.elim p2
    | some kk =>
      rw [ek] at p2
      obtain ⟨z, p2⟩ := p2
      obtain rfl := keyD_rep ek rk
      obtain ⟨I3, g3⟩ := I2.mutK e1 e2 (ys := putD xs kk d) (vs := putK vs' kk v) (RepK.put kk r2 (Rep.grow g2 _ _ r'))
      exact ⟨a, _, rfl, DPut.k e5 (by rw [r2.len]; exact z), hg.1 _ k1 σ _ _ p2 ((g.trans g2).trans g3) I3⟩
theorem sg_put {x : Str} {px ps pos : Pos} {k e : Expr} {gk ge : Env → W D} {xs : List (Key × D)} {m0 : W (List (Key × D))} {kk : List (Key × D) → W γ} {ρ' : List (Key × D) → Env} (i L : Nat) (hu : X.A.units + 1 < cLine) (hk : E G X Wx k gk) (he : E G X Wx e ge) (hx : ρ[i]? = some (.ownK xs)) (hg : (bnd (ge ρ) fun v => bnd (gk ρ) fun k => putW xs k v) = m0) (hL : ρ.length = L) (hi : i < L) (hρ : ∀ a, ρ.set i (.ownK a) = ρ' a) (hr : ∀ a, SG G X Wx rest (ρ' a) En (kk a))
    (hN : X.N[i]? = some x := by rfl) (hv : Vis X.env.scope x := by first | exact Or.inl rfl | exact Or.inr (Or.inl rfl) | exact Or.inr (Or.inr rfl)) (hd : (x == ("__debug__" : Str)) = false := by decide)
    (hcd : (x == ("__classdict__" : Str)) = false := by decide) (hs : swapsWith e (some (.Subscript (.Name x px) k ps)) pos.line X.env = pure false := by rfl) :
    SG G X Wx (.Assign [.Subscript (.Name x px) k ps] e pos :: rest) ρ En (bnd m0 kk) :=
  sg_stmt (s_put i hu hk he hN hv hd hcd hs) (by
    unfold ownKAt
    rw [hx, ← hg]) (ownK_inj (f := fun a => a) (lt_lit hL hi) fun _ _ h => h) fun a => by rw [hρ]; exact hr a
/-! ### reading dicts -/
def optW {α : Type} : Option α → W α
  | some a => ret a
  | none => stuck
theorem optW_inv {α : Type} {o : Option α} {n : Nt} {P : α → Nt → Prop} {PX : Exc → Nt → Prop} (h : optW o n P PX) : ∃ a, o = some a ∧ P a n := by
  cases o with
  | some a => exact ⟨a, rfl, h⟩
  | none => exact False.elim h
def dgetD (d k : D) : W D := match d with
  | .dic kvs => bnd (optW (keyD k)) fun kk => optW (valD kvs kk)
  | _ => stuck
theorem e_dget {o i : Expr} {pos : Pos} {go gi : Env → W D} (hu : X.A.units + 1 < cLine) (ho : E G X Wx o go) (hi : E G X Wx i gi) (hs : NoSl i := by intro _ _; rfl) : E G X Wx (.Subscript o i pos) (fun ρ => bnd (go ρ) fun x => bnd (gi ρ) fun y => dgetD x y) :=
  two_parts (r := fun x y H Q => ∃ a v, x = .ref a ∧ DGet H a y (some v) ∧ Q v H) (by
    intro c σ ρ H n P PX d e v w Q I rd re h hg hx
    cases d with
    | dic kvs =>
      obtain ⟨a, kws, rfl, ⟨_, r1⟩, r2⟩ := rd
      obtain ⟨kk, ek, h⟩ := optW_inv (show optW (keyD e) n (fun kk k => optW (valD kvs kk) k P PX) PX from h)
      obtain ⟨x, ex, h⟩ := optW_inv h
      obtain rfl := keyD_rep ek re
      rcases RepK.find kk r2 with ⟨z, _⟩ | ⟨y, v, z1, z2, r3⟩
      · rw [z] at ex; cases ex
      · rw [z1] at ex
        cases ex
        exact ⟨a, v, rfl, z2 ▸ .inl ⟨kws, kk, r1, rfl, rfl⟩, hg.at h I r3⟩
    | _ => exact False.elim h) ho hi (pe_dget hu ho hi hs)
/-- list(d) -/
def keysD : D → W (List D)
  | .dic kvs => grd (kvs.length ≤ sizeLine ∧ ∀ kv ∈ kvs, ∀ s, kv.1 = .inr s → s.length ≤ sizeLine) (ret (kvs.map fun kv => keyV kv.1))
  | _ => stuck
theorem o_listK {p pos : Pos} {e : Expr} {g : Env → W D} (hc : X.calm = true) (hm : X.mg "list" = none) (h : E G X Wx e g) (hg : Gl X "list" := by rfl) (he : starEach [e] X.env = (false, eval e X.env) :: starEach [] X.env := by rfl) :
    EO G X Wx (.Call (.Name "list" p) [e] [] pos) (fun ρ => bnd (g ρ) keysD) :=
  o_t1 hm PyProof.Rows.boot_list (call_listD hc) (r := fun x H Q => ∃ (a : Addr) (kvs : List (Key × V)), x = .ref a ∧ Rd H a (.dK kvs) ∧ ∀ p, H p = none → Q (.ref p) (upd H p (.lst (kvs.map fun kv => kV kv.1)))) (by
    intro c σ ρ H n P PX d v Q I r q hg hx
    cases d with
    | dic kvs =>
      obtain ⟨a, kws, rfl, ⟨_, r1⟩, r2⟩ := r
      obtain ⟨⟨z1, z2⟩, q⟩ := q
      exact ⟨a, kws, rfl, r1, fun b hb => hg.new q I hb (by rw [List.length_map]; exact z1) (RepK.keys r2 z2)⟩
    | _ => exact False.elim q) (fun x H Q ⟨a, kvs, e, r, q⟩ => ⟨a, kvs, by rw [e], r, q⟩) h hg (by decide) (by decide) he (by rfl)
/-! ### sorted texts -/
def leS (a b : Str) : Bool := !ltCps b.cps.toList a.cps.toList
def sortT (xs : List Str) : List Str := xs.mergeSort leS
theorem ltCps_iff : ∀ a b : List Nat, ltCps a b = true ↔ a < b
  | [], [] => by simp [ltCps]
  | [], _ :: _ => by simp [ltCps]
  | _ :: _, [] => by simp [ltCps]
  | x :: xs, y :: ys => by
    have ih := ltCps_iff xs ys
    rw [List.cons_lt_cons_iff]
    unfold ltCps
    simp only [Bool.or_eq_true, Bool.and_eq_true, decide_eq_true_eq, beq_iff_eq, ih]
theorem leS_iff (a b : Str) : leS a b = true ↔ ¬ b.cps.toList < a.cps.toList := by
  unfold leS
  rw [Bool.not_eq_true', ← Bool.not_eq_true, ltCps_iff]
theorem leS_trans (a b c : Str) (h1 : leS a b = true) (h2 : leS b c = true) : leS a c = true := by
  rw [leS_iff] at *
  exact List.le_trans (α := Nat) h1 h2
theorem leS_total (a b : Str) : (leS a b || leS b a) = true := by
  rw [Bool.or_eq_true, leS_iff, leS_iff]
  exact List.le_total (α := Nat) a.cps.toList b.cps.toList
theorem str_ext {a b : Str} (h : a.cps.toList = b.cps.toList) : a = b := by
  cases a; cases b
  congr 1
  exact Array.toList_inj.mp h
theorem leS_anti (a b : Str) (h1 : leS a b = true) (h2 : leS b a = true) : a = b := by
  rw [leS_iff] at *
  exact str_ext (List.le_antisymm (α := Nat) h1 h2)
theorem risingS_pw : ∀ (l : List Str) (p : Str), risingS p l = true → (p :: l).Pairwise fun a b => leS a b = true
  | [], p, _ => List.pairwise_cons.mpr ⟨fun _ h => (nomatch h), List.Pairwise.nil⟩
  | x :: r, p, h => by
    have h : (!ltCps x.cps.toList p.cps.toList && risingS x r) = true := h
    rw [Bool.and_eq_true] at h
    have ih := risingS_pw r x h.2
    refine List.pairwise_cons.mpr ⟨fun y hy => ?_, ih⟩
    rcases List.mem_cons.mp hy with rfl | hy
    · exact h.1
    · exact leS_trans p x y h.1 ((List.pairwise_cons.mp ih).1 y hy)
theorem sortedS_pw (l : List Str) (h : sortedS l = true) : l.Pairwise fun a b => leS a b = true := by
  cases l with
  | nil => exact List.Pairwise.nil
  | cons x r => exact risingS_pw r x h
theorem sortT_unique {xs ys : List Str} (hp : ys.Perm xs) (hs : sortedS ys = true) : ys = sortT xs := by
  refine (hp.trans (List.mergeSort_perm xs leS).symm).eq_of_pairwise (fun a b _ _ h1 h2 => leS_anti a b h1 h2) (sortedS_pw ys hs) ?_
  exact List.pairwise_mergeSort leS_trans leS_total xs
/-- sorted(e) of texts -/
def sortW : D → W (List D)
  | .lst xs => match txts xs with
    | some ss => grd (ss.length < 64) (ret ((sortT ss).map .str))
    | none => stuck
  | _ => stuck
theorem txts_len {K : PySem.W.Frag} {S : Addr → Prop} {H : Hp} : ∀ {xs : List D} {ss : List Str} {vs : List V}, txts xs = some ss → Reps K S H xs vs → ss.length = xs.length ∧ ∀ s ∈ ss, s.length ≤ sizeLine
  | [], _, _, e, h => by cases e; exact ⟨rfl, fun _ h => nomatch h⟩
  | x :: xs, _, _, e, h => by
    obtain ⟨v, ws, rfl, r, q⟩ := h
    cases x with
    | str s =>
      have e : (txts xs).map (s :: ·) = some _ := e
      cases e1 : txts xs with
      | none => rw [e1] at e; cases e
      | some ts =>
        rw [e1] at e
        cases e
        obtain ⟨h1, h2⟩ := txts_len e1 q
        refine ⟨by rw [List.length_cons, List.length_cons, h1], fun t ht => ?_⟩
        rcases List.mem_cons.mp ht with rfl | ht
        · exact r.2
        · exact h2 t ht
    | _ => cases e
theorem reps_strs {K : PySem.W.Frag} {S : Addr → Prop} {H : Hp} : ∀ {ss : List Str}, (∀ s ∈ ss, s.length ≤ sizeLine) → Reps K S H (ss.map .str) (ss.map .str)
  | [], _ => Reps.nil
  | s :: ss, h => Reps.cons ⟨rfl, h s List.mem_cons_self⟩ (reps_strs fun t ht => h t (List.mem_cons_of_mem _ ht))
theorem o_b1 {x : Str} {p pos : Pos} {id : String} {e : Expr} {r : V → Hp → VK → Prop} {r' : List V → Hp → VK → Prop} {g : Env → W D} {f : D → W (List D)} (hm : X.mg x = none) (hv : bootBuiltins x = some (.builtin id)) (o : CallR X (.builtin id) r') (v : V1O G X Wx f r) (hr : ∀ x H Q, r x H Q → r' [x] H Q) (h : E G X Wx e g)
    (hg : Gl X x) (hn : x ≠ "__name__") (hdb : (x == ("__debug__" : Str)) = false) (he : starEach [e] X.env = (false, eval e X.env) :: starEach [] X.env) (hpl : (backTo pos (starEach [] X.env)).any (·.1) = false) : EO G X Wx (.Call (.Name x p) [e] [] pos) (fun ρ => bnd (g ρ) f) :=
  weakE (pe_callB o hg hm hv (a_cons h a_nil he) hn hdb he hpl) fun σ H Q ⟨c, ρ, n, P, PX, I, q, hg, hx⟩ => tAr.bnd (f := fun ds => match ds with | [d] => f d | _ => stuck) I q hx fun ds k vs S' H' p g I' hx' rs => by
    cases ds with
    | nil => exact False.elim p
    | cons d ds =>
      cases ds with
      | cons _ _ => exact False.elim p
      | nil =>
        obtain ⟨u, rfl, r1⟩ := rs.one_inv
        exact hr u H' Q (v _ σ ρ H' k P PX d u Q I' r1 p (hg.grow g) hx')
theorem o_sortS {p pos : Pos} {e : Expr} {g : Env → W D} (hm : X.mg "sorted" = none) (h : E G X Wx e g) (hg : Gl X "sorted" := by rfl) (he : starEach [e] X.env = (false, eval e X.env) :: starEach [] X.env := by rfl) :
    EO G X Wx (.Call (.Name "sorted" p) [e] [] pos) (fun ρ => bnd (g ρ) sortW) :=
  o_b1 hm (by decide +kernel) cr_sortedS (r := fun x H Q => ∃ (a : Addr) (xs : List Str), x = .ref a ∧ SqL X.K H a (xs.map V.str) ∧ xs.length < 64 ∧ ∀ (ys : List Str) (p : Addr), ys.Perm xs → sortedS ys = true → H p = none → Q (.ref p) (upd H p (.lst (ys.map V.str)))) (by
    intro c σ ρ H n P PX d v Q I r q hg hx
    cases d with
    | lst xs =>
      obtain ⟨a, vs, rfl, r1, z, q1⟩ := r
      have q : (match txts xs with | some ss => grd (ss.length < 64) (ret ((sortT ss).map .str)) | none => stuck : W (List D)) n P PX := q
      cases e1 : txts xs with
      | none => rw [e1] at q; exact False.elim q
      | some ss =>
        rw [e1] at q
        obtain ⟨h64, q⟩ := q
        obtain rfl := txts_vals e1 q1
        obtain ⟨hl, hz⟩ := txts_len e1 q1
        refine ⟨a, ss, rfl, r1.sq, h64, fun ys b hp hs hb => ?_⟩
        obtain rfl := sortT_unique hp hs
        have hz2 : ∀ s ∈ sortT ss, s.length ≤ sizeLine := fun s hs => hz s (hp.mem_iff.mp hs)
        have hlen : ((sortT ss).map D.str).length ≤ sizeLine := by rw [List.length_map, hp.length_eq, hl]; exact z
        exact hg.new q I hb hlen (reps_strs hz2)
    | _ => exact False.elim q) (fun x H Q ⟨a, xs, e, h⟩ => ⟨a, xs, by rw [e], h⟩) h hg (by decide) (by decide) he (by rfl)
/-! ### xs * k -/
def repL (xs : List D) (k : Int) : List D := (List.replicate k.toNat xs).flatten
def repD : D → D → W D
  | .lst xs, .int k => grd (-(2 ^ 63) ≤ k ∧ k < 2 ^ 63 ∧ xs.length * k.toNat ≤ sizeLine) (ret (.lst (repL xs k)))
  | .tup xs, .int k => grd (xs ≠ [] ∧ 2 ≤ k ∧ k ≤ 1000 ∧ xs.length ≤ 1000) (ret (.tup (repL xs k)))
  | _, _ => stuck
theorem repL_len (xs : List D) (k : Int) : (repL xs k).length = xs.length * k.toNat := by
  unfold repL
  rw [List.length_flatten, List.map_replicate, List.sum_replicate_nat, Nat.mul_comm]
theorem Reps.rep {K : PySem.W.Frag} {S : Addr → Prop} {H : Hp} {xs : List D} {vs : List V} (h : Reps K S H xs vs) : ∀ n : Nat, Reps K S H (List.replicate n xs).flatten (List.replicate n vs).flatten
  | 0 => Reps.nil
  | n + 1 => by
    rw [List.replicate_succ, List.replicate_succ, List.flatten_cons, List.flatten_cons]
    exact Reps.app h (Reps.rep h n)
def rRepZ (K : PySem.W.Frag) : R2 := fun x y H Q => ∃ l k xs, x = .ref l ∧ y = .int k ∧ SqT K H l xs ∧ xs ≠ [] ∧ 2 ≤ k ∧ k ≤ 1000 ∧ xs.length ≤ 1000 ∧ NewT H (List.replicate k.toNat xs).flatten Q
theorem op_repZ : OpR X (binaryOp .Mult) (rRepZ X.K) := by
  intro pins s σ H x y v u Q I rx ry h
  obtain ⟨l, k, xs, rfl, rfl, hT, hne, h1, h2, hz, q⟩ := h
  cases rx
  obtain ⟨t, rfl⟩ := ry
  obtain ⟨its, r, ⟨⟨cls, dd, data, sl⟩, ho, hc, n, hd⟩, hs⟩ := I.tuple hT
  simp only at hc hd
  subst hc hd
  have hle : its.length = xs.length := r.length.symm
  have hn : its ≠ [] := fun e => hne (by
    rw [e] at hle
    exact List.eq_nil_of_length_eq_zero hle.symm)
  have hi : its.toArray.isEmpty = false := by
    cases its with
    | nil => exact absurd rfl hn
    | cons a b => rfl
  have hsz0 : its.toArray.size = xs.length := by rw [List.size_toArray, hle]
  have hm : ((its.toArray.size : Nat) : Int) * k ≤ 1000000 := by
    rw [hsz0]
    have a1 : ((xs.length : Nat) : Int) * k ≤ 1000 * k := Int.mul_le_mul_of_nonneg_right (by omega) (by omega)
    omega
  have flen : (List.replicate k.toNat its).flatten.length ≤ sizeLine := by
    rw [PyProof.Rows.lm_len_rep_flat, hle, sizeLine_eq]
    have a1 : k.toNat * xs.length ≤ 1000 * 1000 := Nat.mul_le_mul (by omega) hz
    omega
  have c0 : (decide (k < -(2 ^ 63)) || decide (k ≥ 2 ^ 63)) = false := by
    rw [decide_eq_false (by omega), decide_eq_false (by omega)] <;> rfl
  have c1 : (its.toArray.isEmpty || k == 1) = false := by
    rw [hi, Bool.false_or]
    exact beq_eq_false_iff_ne.mpr (by omega)
  have c2 : (decide (k ≤ 0) || its.toArray.isEmpty) = false := by
    rw [hi, Bool.or_false]
    exact decide_eq_false (by omega)
  have c4 : Builtin.Tuple.tupleTooMany (((its.toArray.size : Nat) : Int) * k) = false := by
    unfold Builtin.Tuple.tupleTooMany
    rw [sizeLine_eq]
    exact decide_eq_false (by omega)
  refine wpAny_binaryOp_repeat_ref (T := "tuple") (U := "int") (by decide) ⟨_, ho, rfl⟩ (fun s' => typeIs_int s' k t) noFill_tuple_mul F.fills_int_mul F.slot_int_rmul repeat_tuple F.slot_int_index.lookup
    (call_meets F.slot_int_rmul (typeIs_int s k t) F.entry_int_rmul (F.args_int_rmul_2 _ _) (int_rmul_tuple k t l its.toArray n dd sl)
      ⟨ho, rfl, ⟨_, ho, rfl⟩, call_meets F.slot_tuple_mul ⟨_, ho, rfl⟩ F.entry_tuple_mul (F.args_tuple_mul_2 _ _) (tuple_mulW l its.toArray n dd sl k t c0 c1 c2 (by omega) c4 (by rw [size_rep, List.size_toArray]; exact flen)) ⟨ho, ?_⟩⟩)
  rw [size_rep]
  exact newT I (r.rep k.toNat) (by rw [PyProof.Rows.lm_len_rep_flat, sizeLine_eq]; have a1 : k.toNat * xs.length ≤ 1000 * 1000 := Nat.mul_le_mul (by omega) hz; omega) q
theorem e_rep {a b : Expr} {pos : Pos} {ga gb : Env → W D} (ha : E G X Wx a ga) (hb : E G X Wx b gb) : E G X Wx (.BinOp a .Mult b pos) (fun ρ => bnd (ga ρ) fun x => bnd (gb ρ) fun y => repD x y) :=
  e_op (op_rep.or op_repZ) (by
    intro c σ ρ H n P PX d e v w Q I rd re h hg hx
    cases d with
    | lst xs =>
      cases e with
      | int k =>
        cases re
        obtain ⟨⟨z1, z2, z3⟩, h⟩ := h
        obtain ⟨a, vs, rfl, r1, z, q1⟩ := rd
        exact .inl ⟨a, k, vs, rfl, rfl, r1.2, z1, z2, by rw [q1.len]; exact z3, fun p hp => hg.new h I hp fun g => ⟨p, _, rfl, ⟨.inr rfl, upd_same⟩, by rw [repL_len]; exact z3, Reps.grow g _ _ (q1.rep _)⟩⟩
      | _ => exact False.elim h
    | tup xs =>
      cases e with
      | int k =>
        cases re
        obtain ⟨⟨z0, z1, z2, z3⟩, h⟩ := h
        obtain ⟨a, vs, rfl, r1, z, q1⟩ := rd
        have hl := q1.len
        refine .inr ⟨a, k, vs, rfl, rfl, r1.sq, fun e => z0 (List.eq_nil_of_length_eq_zero (by rw [← hl, e]; rfl)), z1, z2, by rw [hl]; exact z3, fun p o hp hd => hg.new h I hp fun g => ⟨p, _, rfl, .inl ⟨.inr rfl, o, upd_same, hd⟩, ?_, Reps.grow g _ _ (q1.rep _)⟩⟩
        rw [repL_len, sizeLine_eq]
        have : k.toNat ≤ 1000 := by omega
        calc xs.length * k.toNat ≤ 1000 * 1000 := Nat.mul_le_mul z3 this
          _ ≤ _ := by decide
      | _ => exact False.elim h
    | _ => cases e <;> exact False.elim h) ha hb
/-- xs.append(e), e known -/
theorem sg_appP {x : Str} {px pa pc pos : Pos} {e : Expr} {g : Env → W D} {d : D} {ρ' : Env} {xs : List D} (i L : Nat) (h : E G X Wx e g) (hx : ρ[i]? = some (.own xs)) (hg : g ρ = ret d) (hL : ρ.length = L) (hi : i < L) (hρ : ρ.set i (.own (xs ++ [d])) = ρ') (hr : SG G X Wx rest ρ' En m)
    (hN : X.N[i]? = some x := by rfl) (hv : Vis X.env.scope x := by first | exact Or.inl rfl | exact Or.inr (Or.inl rfl) | exact Or.inr (Or.inr rfl)) (hd : (x == ("__debug__" : Str)) = false := by decide)
    (hcd : (x == ("__classdict__" : Str)) = false := by decide) (hst : starEach [e] X.env = (false, eval e X.env) :: starEach [] X.env := by rfl)
    (hbase : attributeBase (.Name x px) "append" X.env (eval (.Name x px) X.env) = eval (.Name x px) X.env := by rfl)
    (hfew : ((backTo pc (starEach [e] X.env)).all (fun x => !x.1) && (backToKw pc (keywordEach [] X.env)).all (fun x => x.1.isSome)
      && decide (([e] : List Expr).length + ([] : List Keyword).length + (if ([] : List Keyword).isEmpty then 0 else 1) < 30)) = true := by rfl)
    (hline : (pa.endLine == pc.line) = true := by rfl) (hplain : (backTo pc (starEach [] X.env)).any (·.1) = false := by rfl) (hs : swapsWith (.Call (.Attribute (.Name x px) "append" pa) [e] [] pc) none pos.line X.env = pure false := by rfl) :
    SG G X Wx (.Expr (.Call (.Attribute (.Name x px) "append" pa) [e] [] pc) pos :: rest) ρ En (roomL xs m) :=
  sg_eq (sg_stmt (m0 := roomL xs (ret ())) (e := fun _ => ρ.set i (.own (xs ++ [d]))) (k := fun _ => m) (s_app i h hN hv hd hcd hst hbase hfew hline hplain hs) (by
    unfold ownAt
    rw [hx, hg]
    rfl) (fun _ _ _ => rfl) fun _ => by rw [hρ]; exact hr) rfl
theorem w_rng2Z {tg a b : Expr} {p pos : Pos} {ga gb : Env → W D} (hm : X.mg "range" = none) (ha : E G X Wx a ga) (hb : E G X Wx b gb) (hg : Gl X "range" := by rfl) (hs : starEach [a, b] X.env = [(false, eval a X.env), (false, eval b X.env)] := by rfl) (hs2 : starEach [b] X.env = [(false, eval b X.env)] := by rfl) :
    Wk G X Wx tg (.Call (.Name "range" p) [a, b] [] pos) (fun ρ => bnd (bnd (ga ρ) fun x => bnd (gb ρ) fun y => rngD2 x y) fun ys => ret (ys.map .int)) :=
  (w_rng2 hm ha hb hg hs hs2).eq (by
    have q : rng2 = fun x y => bnd (rngD2 x y) fun ys => ret (ys.map D.int) := by
      funext x y
      cases x with
      | int i =>
        cases y with
        | int j =>
          show grd _ (ret (rng i (j - i).toNat)) = _
          rw [rngZ_map]
          rfl
        | _ => rfl
      | _ => rfl
    rw [q]
    rfl)
theorem u1 {A : Around} {k : Nat} (r : Room k A) : A.units + 1 < cLine := by
  have := u64 r
  omega
/-- a list of one's own is given up -/
theorem sg_frz {ss : List Stmt} {ρ' : Env} (i : Nat) (hρ : PL.frz i ρ = ρ') (h : SG G X Wx ss ρ' En m) : SG G X Wx ss ρ En m :=
  weakSs h fun Dn σ H ⟨c, n, P, PX, I, q, hg, hx⟩ => by
    obtain ⟨S', I2, g2⟩ := I.frz i
    rw [hρ] at I2
    exact ⟨_, n, P, PX, I2, q, hg.grow g2, hx.grow g2⟩
end
end PL

/-! The plain side of mirrors by values: rows for simp, what draws give, sizes of what is shown. -/
namespace PL
open PySem PySem.Spec L2
section
variable {α β γ J : Type}
theorem Gen.bind {m : W α} {f : α → W β} {c d : Nat} {R : α → Prop} {Q : β → Prop} (h : Gen m c R) (k : ∀ a, R a → Gen (f a) d Q) : Gen (PL.bnd m f) (c + d) Q := Gen.bnd h k
theorem Gen.dr {b : Int} {f : Int → W β} {c : Nat} {Q : β → Prop} (h0 : 0 < b) (h1 : b < 1073741824) (k : ∀ r : Int, 0 ≤ r → r < b → Gen (f r) c Q) : Gen (PL.bnd (drw b) f) (1 + c) Q := fun n P PX hn kk =>
  ⟨by omega, h0, h1, fun r j q1 q2 q3 q4 => k r q1 q2 ⟨j, n.μ⟩ P PX (by show j + c ≤ _; omega) fun a i hq h3 h4 => kk a i hq (Nat.le_trans q3 h3) (by have h4 : i ≤ j + c := h4; omega)⟩
theorem Gen.dr0 {b : Int} {c : Nat} {Q : Int → Prop} (h0 : 0 < b) (h1 : b < 1073741824) (k : ∀ r : Int, 0 ≤ r → r < b → Q r) : Gen (drw b) 1 Q := fun n P PX hn kk =>
  ⟨by omega, h0, h1, fun r j q1 q2 q3 q4 => kk r j (k r q1 q2) q3 (by omega)⟩
theorem Gen.cond {b : Bool} {m m' : W α} {c d : Nat} {Q : α → Prop} (h1 : b = true → Gen m c Q) (h2 : b = false → Gen m' d Q) : Gen (if b = true then m else m') (Nat.max c d) Q := by
  cases b with
  | true => exact (h1 rfl).up (Nat.le_max_left _ _)
  | false => exact (h2 rfl).up (Nat.le_max_right _ _)
theorem Gen.is {m : W α} {a : α} {Q : α → Prop} (e : m = PL.ret a) (q : Q a) : Gen m 0 Q := e ▸ Gen.ret q
theorem Gen.room {xs : List D} {m : W α} {c : Nat} {Q : α → Prop} (h : xs.length < 1000000) (k : Gen m c Q) : Gen (roomL xs m) c Q := Gen.grd (by rw [sizeLine_eq]; omega) k
theorem room_pos {xs : List D} {m : W α} (h : xs.length < 1000000) : roomL xs m = m := grd_pos (by rw [sizeLine_eq]; omega) m
theorem fewN_pos {n : Nat} {m : W α} (h : n ≤ 1000000) : fewN n m = m := grd_pos (by rw [sizeLine_eq]; omega) m
theorem Gen.compP {f : α → W (Option D)} {c : Nat} {Q : D → Prop} : ∀ {xs : List α}, (∀ x ∈ xs, Gen (f x) c fun o => ∀ y, o = some y → Q y) → Gen (PL.compP f xs) (c * xs.length) fun ys => ys.length ≤ xs.length ∧ ∀ y ∈ ys, Q y
  | [], _ => Gen.ret ⟨Nat.le_refl _, fun _ h => nomatch h⟩
  | x :: xs, h => by
    have ih := Gen.compP (xs := xs) fun y hy => h y (List.mem_cons_of_mem _ hy)
    refine (Gen.bnd (h x List.mem_cons_self) (d := c * xs.length) fun o ho => ?_).up (by rw [List.length_cons, Nat.mul_add]; omega)
    cases o with
    | none => exact ih.to fun ys q => ⟨Nat.le_succ_of_le q.1, q.2⟩
    | some y =>
      refine (Gen.bnd (d := 0) ih fun (ys : List D) q => Gen.ret (a := y :: ys) (Q := fun ys : List D => ys.length ≤ (x :: xs).length ∧ ∀ y ∈ ys, Q y) ⟨Nat.succ_le_succ q.1, fun z hz => ?_⟩).up (Nat.le_refl _)
      rcases List.mem_cons.mp hz with rfl | hz
      · exact ho z rfl
      · exact q.2 z hz
theorem Gen.compM {f : α → W D} {c : Nat} {Q : D → Prop} : ∀ {xs : List α}, (∀ x ∈ xs, Gen (f x) c Q) → Gen (PL.compP (fun x => PL.bnd (f x) fun y => PL.ret (some y)) xs) (c * xs.length) fun ys => ys.length = xs.length ∧ ∀ y ∈ ys, Q y
  | [], _ => Gen.ret ⟨rfl, fun _ h => nomatch h⟩
  | x :: xs, h => by
    have ih := Gen.compM (xs := xs) fun y hy => h y (List.mem_cons_of_mem _ hy)
    show Gen (PL.bnd (PL.bnd (f x) _) _) _ _
    rw [bnd_bnd]
    refine (Gen.bnd (h x List.mem_cons_self) (d := c * xs.length) fun y hy => ?_).up (by rw [List.length_cons, Nat.mul_add]; omega)
    rw [bnd_ret]
    refine (Gen.bnd (d := 0) ih fun ys q => Gen.ret (Q := fun ys : List D => ys.length = (x :: xs).length ∧ ∀ y ∈ ys, Q y) ⟨by rw [List.length_cons, q.1, List.length_cons], fun z hz => ?_⟩).up (Nat.le_refl _)
    rcases List.mem_cons.mp hz with rfl | hz
    · exact hy
    · exact q.2 z hz
theorem Gen.map {f : α → W D} {xs : List α} {c : Nat} {Q : D → Prop} (n : Nat) (hn : xs.length ≤ n) (h : ∀ x ∈ xs, Gen (f x) c Q) (hz : n ≤ 1000000 := by decide) : Gen (mapP f xs) (c * n) fun ys => ys.length = xs.length ∧ ∀ y ∈ ys, Q y := by
  unfold mapP
  rw [fewN_pos (by omega)]
  exact Gen.quiet ((Gen.compM h).up (Nat.mul_le_mul_left _ hn))
/-- a loop with an invariant that may count the turns -/
theorem Gen.forI {bd : α → J → W (Step J γ)} {k : J → W γ} {c d n : Nat} {I : Nat → J → Prop} {Q : γ → Prop} : ∀ {xs : List α} {i : Nat} {j : J}, xs.length + i ≤ n → (∀ x ∈ xs, ∀ i j, i < n → I i j → Gen (bd x j) c fun o => match o with | .go j' => I (i + 1) j' | .bk j' => Gen (k j') d Q | .out g => Q g) →
    (∀ j, I (xs.length + i) j → Gen (k j) d Q) → I i j → Gen (forT bd k xs j) (c * xs.length + d) Q
  | [], i, j, _, _, hk, h0 => (hk j (by rw [List.length_nil, Nat.zero_add]; exact h0)).up (by omega)
  | x :: xs, i, j, hn, hb, hk, h0 => by
    rw [List.length_cons] at hn
    refine (Gen.bnd (hb x List.mem_cons_self i j (by omega) h0) (d := c * xs.length + d) fun o q => ?_).up (by rw [List.length_cons, Nat.mul_add]; omega)
    cases o with
    | go j' => exact Gen.forI (i := i + 1) (by omega) (fun y hy => hb y (List.mem_cons_of_mem _ hy)) (fun j hj => hk j (by rw [List.length_cons, show xs.length + 1 + i = xs.length + (i + 1) by omega]; exact hj)) q
    | bk j' => exact Gen.up (show Gen (k j') d Q from q) (by omega)
    | out g => exact (Gen.ret (show Q g from q)).up (Nat.zero_le _)
theorem Gen.forS {bd : α → J → W (Step J γ)} {k : J → W γ} {c d : Nat} {xs : List α} {j : J} (n : Nat) (I : J → Prop) {Q : γ → Prop} (hn : xs.length ≤ n) (h0 : I j) (hb : ∀ x ∈ xs, ∀ j, I j → Gen (bd x j) c fun o => match o with | .go j' => I j' | .bk j' => Gen (k j') d Q | .out g => Q g)
    (hk : ∀ j, I j → Gen (k j) d Q) : Gen (forT bd k xs j) (c * n + d) Q :=
  (Gen.forI (I := fun _ => I) (i := 0) (n := n) (by omega) (fun x hx _ j _ => hb x hx j) (fun j => hk j) h0).up (by have := Nat.mul_le_mul_left c hn; omega)
/-- a loop each of whose turns is known -/
def runS (st : α → J → Step J γ) : List α → J → Step J γ
  | [], j => .go j
  | x :: xs, j => match st x j with
    | .go j' => runS st xs j'
    | .bk j' => .bk j'
    | .out g => .out g
theorem forT_run {bd : α → J → W (Step J γ)} {k : J → W γ} {st : α → J → Step J γ} {I : J → Prop} : ∀ {xs : List α} {j : J}, (∀ x ∈ xs, ∀ j, I j → bd x j = PL.ret (st x j) ∧ ∀ j', st x j = .go j' → I j') → I j → forT bd k xs j = joinK k (runS st xs j)
  | [], _, _, _ => rfl
  | x :: xs, j, h, h0 => by
    obtain ⟨e, hi⟩ := h x List.mem_cons_self j h0
    show PL.bnd (bd x j) _ = _
    rw [e, bnd_ret]
    show forK k _ (st x j) = joinK k (match st x j with | .go j' => runS st xs j' | .bk j' => .bk j' | .out g => .out g)
    cases q : st x j with
    | go j' => exact forT_run (fun y hy => h y (List.mem_cons_of_mem _ hy)) (hi j' q)
    | bk j' => rfl
    | out g => rfl
/-- [f(x) for x in xs], f known -/
theorem compP_ret {f : α → W (Option D)} {g : α → Option D} : ∀ {xs : List α}, (∀ x ∈ xs, f x = PL.ret (g x)) → PL.compP f xs = PL.ret (xs.filterMap g)
  | [], _ => rfl
  | x :: xs, h => by
    have ih := compP_ret (xs := xs) fun y hy => h y (List.mem_cons_of_mem _ hy)
    show PL.bnd (f x) _ = _
    rw [h x List.mem_cons_self, bnd_ret, List.filterMap_cons]
    cases q : g x with
    | none => exact ih
    | some y =>
      show PL.bnd (PL.compP f xs) _ = _
      rw [ih]
      rfl
theorem mapP_ret {f : α → W D} {g : α → D} {xs : List α} (hn : xs.length ≤ 1000000) (h : ∀ x ∈ xs, f x = PL.ret (g x)) : mapP f xs = PL.ret (xs.map g) := by
  unfold mapP
  rw [fewN_pos hn, compP_ret (g := fun x => some (g x)) fun x hx => by rw [h x hx]; rfl, List.filterMap_eq_map']
  rfl
theorem selP_ret {t : α → W Bool} {f : α → W D} {p : α → Bool} {g : α → D} {xs : List α} (hn : xs.length ≤ 1000000) (ht : ∀ x ∈ xs, t x = PL.ret (p x)) (h : ∀ x ∈ xs, p x = true → f x = PL.ret (g x)) : selP t f xs = PL.ret ((xs.filter p).map g) := by
  unfold selP
  have e : ∀ ys : List α, ys.filterMap (fun x => if p x = true then some (g x) else none) = (ys.filter p).map g := fun ys => by
    induction ys with
    | nil => rfl
    | cons y ys ih =>
      rw [List.filterMap_cons]
      cases q : p y with
      | true => simp [q, ih]
      | false => simp [q, ih]
  rw [fewN_pos hn, compP_ret (g := fun x => if p x = true then some (g x) else none) fun x hx => by
    rw [ht x hx, bnd_ret]
    cases q : p x with
    | true => rw [if_pos rfl, h x hx q]; rfl
    | false => rfl, e]
  rfl
theorem rngZ_len (lo : Int) (n : Nat) : (rngZ lo n).length = n := by unfold rngZ; rw [List.length_map, List.length_range]
theorem rngZ_mem {lo : Int} {n : Nat} {x : Int} (h : x ∈ rngZ lo n) : lo ≤ x ∧ x < lo + n := by
  unfold rngZ at h
  obtain ⟨i, h1, h2⟩ := List.mem_map.mp h
  have := List.mem_range.mp h1
  omega
theorem rngI_ret {i : Int} (h : -1000000 ≤ i ∧ i ≤ 1000000) : rngI i = PL.ret (rngZ 0 i.toNat) := grd_pos (by unfold inR; omega) _
end
/-! ### rows -/
theorem eqB_str (a b : Str) : eqB (.str a) (.str b) = PL.ret (a == b) := by
  unfold eqB
  rw [grd_pos (.inr (.inr rfl))]
  simp [py, PyData.eqv]
theorem neB_str (a b : Str) : neB (.str a) (.str b) = PL.ret (!(a == b)) := by
  unfold neB
  rw [grd_pos (.inr (.inr rfl))]
  simp [py, PyData.eqv]
theorem eqB_nil {xs : List D} : eqB (.lst xs) (.lst []) = PL.ret xs.isEmpty := by
  unfold eqB
  rw [grd_pos (by cases xs <;> first | exact .inl ⟨rfl, rfl⟩ | exact .inr (.inl rfl))]
  cases xs <;> simp [py, pys, PyData.eqv, PyData.eqvAll]
theorem neB_nil {xs : List D} : neB (.lst xs) (.lst []) = PL.ret (!xs.isEmpty) := by
  unfold neB
  rw [grd_pos (by cases xs <;> first | exact .inl ⟨rfl, rfl⟩ | exact .inr (.inl rfl))]
  cases xs <;> simp [py, pys, PyData.eqv, PyData.eqvAll]
theorem okD_lay {x : D} (h : okD x = true) : (py x).canLay0 = true := by
  unfold okD SeqAt.shaped at h
  rw [Bool.and_eq_true] at h
  exact h.1
theorem eqB_same {x : D} (h : okD x = true) : eqB x x = PL.ret true := by
  unfold eqB
  rw [grd_pos (.inl ⟨h, h⟩), SeqAt.eqv_refl _ (okD_lay h)]
theorem neB_same {x : D} (h : okD x = true) : neB x x = PL.ret false := by
  unfold neB
  rw [grd_pos (.inl ⟨h, h⟩), SeqAt.eqv_refl _ (okD_lay h)]
  rfl
theorem addL_ok {xs ys : List D} (h : xs.length + ys.length ≤ 1000000) : addL xs ys = PL.ret (xs ++ ys) := grd_pos (by rw [sizeLine_eq]; omega) _
theorem ixL {xs : List D} {i : Nat} (h : i < xs.length) : ixD (.lst xs) (.int i) = PL.ret xs[i] := ix_l (atI_nat (List.getElem?_eq_getElem h))
theorem ixLZ {xs : List D} {i : Int} (h0 : 0 ≤ i) (h : i < xs.length) : ∃ x ∈ xs, ixD (.lst xs) (.int i) = PL.ret x := by
  obtain ⟨n, rfl⟩ := Int.eq_ofNat_of_zero_le h0
  have hn : n < xs.length := by omega
  exact ⟨xs[n], List.getElem_mem hn, ixL hn⟩
theorem ixTZ {xs : List D} {i : Int} (h0 : 0 ≤ i) (h : i < xs.length) : ∃ x ∈ xs, ixD (.tup xs) (.int i) = PL.ret x := by
  obtain ⟨n, rfl⟩ := Int.eq_ofNat_of_zero_le h0
  have hn : n < xs.length := by omega
  exact ⟨xs[n], List.getElem_mem hn, ix_atT hn⟩
theorem ixSZ {s : Str} {i : Int} (h0 : 0 ≤ i) (h : i < s.length) : ∃ k ∈ s.cps.toList, ixD (.str s) (.int i) = PL.ret (chD k) := by
  obtain ⟨n, rfl⟩ := Int.eq_ofNat_of_zero_le h0
  have hn : n < s.cps.toList.length := by
    have : s.length = s.cps.size := rfl
    rw [Array.length_toList]
    omega
  exact ⟨s.cps.toList[n], List.getElem_mem hn, ix_s (atI_nat (List.getElem?_eq_getElem hn))⟩
/-- one of several, drawn -/
theorem Gen.pickL {β : Type} {xs : List D} {i : Int} {f : D → W β} {c : Nat} {Q : β → Prop} (h0 : 0 ≤ i) (h : i < xs.length) (k : ∀ y ∈ xs, Gen (f y) c Q) : Gen (PL.bnd (ixD (.lst xs) (.int i)) f) c Q := by
  obtain ⟨x, hx, e⟩ := ixLZ h0 h
  rw [e, bnd_ret]
  exact k x hx
theorem Gen.pickL0 {xs : List D} {i : Int} {Q : D → Prop} (h0 : 0 ≤ i) (h : i < xs.length) (k : ∀ y ∈ xs, Q y) : Gen (ixD (.lst xs) (.int i)) 0 Q := by
  obtain ⟨x, hx, e⟩ := ixLZ h0 h
  rw [e]
  exact Gen.ret (k x hx)
/-! ### sizes -/
def Sz (B k : Nat) (x : D) : Prop := Ok x ∧ (py x).bulk ≤ B ∧ (py x).depth ≤ k
theorem Sz.up {B B' k k' : Nat} {x : D} (h : Sz B k x) (h1 : B ≤ B') (h2 : k ≤ k') : Sz B' k' x := ⟨h.1, Nat.le_trans h.2.1 h1, Nat.le_trans h.2.2 h2⟩
def bulks (xs : List D) : Nat := PyData.bulkAll (pys xs)
theorem bulks_nil : bulks [] = 0 := by simp [bulks, pys, PyData.bulkAll]
theorem bulks_cons (x : D) (xs : List D) : bulks (x :: xs) = (py x).bulk + 1 + bulks xs := by simp [bulks, pys, PyData.bulkAll]
theorem bulks_app (xs ys : List D) : bulks (xs ++ ys) = bulks xs + bulks ys := by
  induction xs with
  | nil => rw [bulks_nil]; simp
  | cons x xs ih => rw [List.cons_append, bulks_cons, bulks_cons, ih]; omega
theorem depths_le {k : Nat} {xs : List D} : PyData.depthAll (pys xs) ≤ k ↔ ∀ x ∈ xs, (py x).depth ≤ k := by
  induction xs with
  | nil => simp [pys, PyData.depthAll]
  | cons x xs ih => simp [pys, PyData.depthAll, Nat.max_le, ih]
/-- the parts of a tuple or list -/
def Parts (k : Nat) (xs : List D) : Prop := ∀ x ∈ xs, Ok x ∧ (py x).depth ≤ k
theorem Parts.up {j k : Nat} {xs : List D} (h : Parts j xs) (hk : j ≤ k) : Parts k xs := fun x hx => ⟨(h x hx).1, Nat.le_trans (h x hx).2 hk⟩
theorem Parts.app {k : Nat} {xs ys : List D} (h : Parts k xs) (h2 : Parts k ys) : Parts k (xs ++ ys) := fun x hx => (List.mem_append.mp hx).elim (h x) (h2 x)
theorem Parts.take {k : Nat} {xs : List D} (h : Parts k xs) (r : Nat) : Parts k (xs.take r) := fun x hx => h x (List.mem_of_mem_take hx)
theorem Parts.drop {k : Nat} {xs : List D} (h : Parts k xs) (r : Nat) : Parts k (xs.drop r) := fun x hx => h x (List.mem_of_mem_drop hx)
theorem Parts.nil {k : Nat} : Parts k [] := fun _ h => nomatch h
theorem Parts.cons {k : Nat} {x : D} {xs : List D} (h : Ok x ∧ (py x).depth ≤ k) (h2 : Parts k xs) : Parts k (x :: xs) := fun y hy => (List.mem_cons.mp hy).elim (fun e => e ▸ h) (h2 y)
theorem Sz.pt {B k : Nat} {x : D} (h : Sz B k x) : Ok x ∧ (py x).depth ≤ k := ⟨h.1, h.2.2⟩
theorem Sz.tup {B k : Nat} {xs : List D} (h : Parts k xs) (hb : bulks xs ≤ B) : Sz B (k + 1) (.tup xs) :=
  ⟨.tup fun x hx => (h x hx).1, by simpa [py, PyData.bulk, bulks] using hb, by simp only [py, PyData.depth]; exact Nat.succ_le_succ (depths_le.mpr fun x hx => (h x hx).2)⟩
theorem Sz.lst {B k : Nat} {xs : List D} (h : Parts k xs) (hb : bulks xs ≤ B) : Sz B (k + 1) (.lst xs) :=
  ⟨.lst fun x hx => (h x hx).1, by simpa [py, PyData.bulk, bulks] using hb, by simp only [py, PyData.depth]; exact Nat.succ_le_succ (depths_le.mpr fun x hx => (h x hx).2)⟩
theorem Sz.str {s : Str} {B k : Nat} (h : okD (.str s) = true) (h2 : s.length ≤ B) : Sz B k (.str s) := ⟨.str h, by simp only [py, PyData.bulk]; exact h2, by simp [py, PyData.depth]⟩
theorem Sz.int {i : Int} {B k : Nat} (h : i.natAbs < 10 ^ 61) : Sz B k (.int i) := ⟨.int h, by simp [py, PyData.bulk], by simp [py, PyData.depth]⟩
theorem Sz.bl {b : Bool} {B k : Nat} : Sz B k (.bl b) := ⟨.bl b, by simp [py, PyData.bulk], by simp [py, PyData.depth]⟩
theorem Sz.non {B k : Nat} : Sz B k .non := ⟨.non, by simp [py, PyData.bulk], by simp [py, PyData.depth]⟩
theorem repr_sz {B k : Nat} {x : D} (h : Sz B k x) (hb : B ≤ 200000) (hd : k ≤ 64) : reprD x = PL.ret (.str (py x).shown) := (repr_ok h.1 (Nat.le_trans h.2.1 hb) (Nat.le_trans h.2.2 hd)).1
end PL

/-! Words, values, stores, states as data. -/
namespace PL
open PySem PySem.Spec L2
def lower (k : Nat) : Bool := decide (97 ≤ k ∧ k ≤ 122)
def wordB : D → Bool
  | .str s => decide (1 ≤ (s.length : Int)) && decide ((s.length : Int) ≤ 8) && s.cps.toList.all lower
  | _ => false
theorem bls_map {α : Type} (f : α → Bool) : ∀ xs : List α, bls (xs.map fun k => D.bl (f k)) = some (xs.map f)
  | [] => rfl
  | x :: xs => by
    show (bls (xs.map _)).map _ = _
    rw [bls_map f xs]
    rfl
theorem all_bls {α : Type} (f : α → Bool) (xs : List α) : allD (.lst (xs.map fun k => D.bl (f k))) = ret (.bl (xs.all f)) := by
  show (match bls (xs.map fun k => D.bl (f k)) with | some bs => PL.ret (D.bl (bs.all id)) | none => stuck : W D) = _
  rw [bls_map]
  congr 2
  induction xs with
  | nil => rfl
  | cons x l ih => simp [List.all_cons]
theorem abc : (Str.ofString "abcdefghijklmnopqrstuvwxyz").cps.toList = [97, 98, 99, 100, 101, 102, 103, 104, 105, 106, 107, 108, 109, 110, 111, 112, 113, 114, 115, 116, 117, 118, 119, 120, 121, 122] := by decide +kernel
theorem letters (k : Nat) : decide (k ∈ (Str.ofString "abcdefghijklmnopqrstuvwxyz").cps.toList) = lower k := by
  rw [abc]
  unfold lower
  apply decide_eq_decide.mpr
  simp only [List.mem_cons, List.not_mem_nil, or_false]
  omega
theorem in_abc (k : Nat) : inStr false (chD k) (.str (Str.ofString "abcdefghijklmnopqrstuvwxyz")) = ret (.bl (lower k)) := by
  show PL.ret (D.bl (decide (k ∈ (Str.ofString "abcdefghijklmnopqrstuvwxyz").cps.toList))) = _
  rw [letters]
theorem short8 {s : Str} (h : (s.length : Int) ≤ 8) : s.cps.toList.length ≤ 1000000 := by
  rw [Array.length_toList]
  have : s.length = s.cps.size := rfl
  omega
theorem az (k : Nat) : (!decide ((Str.mk #[k]).cps.toList < (Str.ofString "a").cps.toList)) = decide (97 ≤ k) ∧ (!decide ((Str.ofString "z").cps.toList < (Str.mk #[k]).cps.toList)) = decide (k ≤ 122) := by
  have ea : (Str.ofString "a").cps.toList = [97] := by decide +kernel
  have ez : (Str.ofString "z").cps.toList = [122] := by decide +kernel
  have ek : (Str.mk #[k]).cps.toList = [k] := rfl
  have one : ∀ a b : Nat, ([a] : List Nat) < [b] ↔ a < b := fun a b => by
    rw [List.cons_lt_cons_iff]
    simp
  rw [ea, ez, ek]
  constructor
  · rw [← decide_not]
    apply decide_eq_decide.mpr
    rw [one]
    omega
  · rw [← decide_not]
    apply decide_eq_decide.mpr
    rw [one]
    omega
def numB : D → Bool
  | .int i => decide (-1000000000000000000 ≤ i) && decide (i ≤ 1000000000000000000)
  | _ => false
/-! ### what is drawn -/
def IsW (d : D) : Prop := ∃ s : Str, d = .str s ∧ wordB (.str s) = true
theorem lower_of {k : Nat} (h : k ∈ (Str.ofString "abcdefghijklmnopqrstuvwxyz").cps.toList) : lower k = true := by
  rw [← letters]
  exact decide_eq_true h
theorem wordB_signs (ks : List Nat) (h1 : 1 ≤ ks.length) (h2 : ks.length ≤ 8) (h : ∀ k ∈ ks, lower k = true) : wordB (.str ⟨ks.toArray⟩) = true := by
  have e : (Str.mk ks.toArray).length = ks.length := List.size_toArray
  simp only [wordB, Bool.and_eq_true, decide_eq_true_eq, List.all_eq_true, e]
  refine ⟨⟨by omega, by omega⟩, fun k hk => h k hk⟩
theorem IsW.ch {k : Nat} (h : lower k = true) : IsW (chD k) := ⟨⟨#[k]⟩, rfl, wordB_signs [k] (Nat.le_refl _) (by show 1 ≤ 8; decide) fun j hj => by rw [List.mem_singleton.mp hj]; exact h⟩
theorem IsW.ok {d : D} (h : IsW d) {k : Nat} : Sz 8 k d := by
  obtain ⟨s, rfl, h⟩ := h
  simp only [wordB, Bool.and_eq_true, decide_eq_true_eq, List.all_eq_true] at h
  refine Sz.str (okD_small fun k hk => ?_) (by omega)
  have := h.2 k hk
  simp only [lower, decide_eq_true_eq] at this
  omega
def IsN (d : D) : Prop := ∃ i : Int, d = .int i ∧ numB (.int i) = true
theorem IsN.ok {d : D} (h : IsN d) {B k : Nat} : Sz B k d := by
  obtain ⟨i, rfl, h⟩ := h
  simp only [numB, Bool.and_eq_true, decide_eq_true_eq] at h
  refine Sz.int ?_
  have e : (10 : Nat) ^ 61 = 10000000000000000000000000000000000000000000000000000000000000 := by decide
  rw [e]
  omega
/-! ### stores -/
def ltQ (a b : Str) : Bool := decide (a.cps.toList < b.cps.toList)
theorem leD_str (a b : Str) : leD (.str a) (.str b) = ret (.bl (!ltQ b a)) := rfl
def pairK : D → Option (Str × D)
  | .tup [.str a, y] => some (a, y)
  | _ => none
theorem pairK_some {x : D} {p : Str × D} (h : pairK x = some p) : x = .tup [.str p.1, p.2] := by
  unfold pairK at h
  split at h
  · cases h; rfl
  · cases h
/-- pairs with ascending words, whose second parts are as told -/
def ascB (v : D → Bool) : Str → List D → Bool
  | _, [] => true
  | last, x :: r => match pairK x with
    | some p => wordB (.str p.1) && ltQ last p.1 && v p.2 && ascB v p.1 r
    | none => false
theorem ascB_some {v : D → Bool} {last : Str} {x : D} {r : List D} {p : Str × D} (h : pairK x = some p) : ascB v last (x :: r) = (wordB (.str p.1) && ltQ last p.1 && v p.2 && ascB v p.1 r) := by
  show (match pairK x with | some p => wordB (.str p.1) && ltQ last p.1 && v p.2 && ascB v p.1 r | none => false) = _
  rw [h]
theorem ascB_none {v : D → Bool} {last : Str} {x : D} {r : List D} (h : pairK x = none) : ascB v last (x :: r) = false := by
  show (match pairK x with | some p => wordB (.str p.1) && ltQ last p.1 && v p.2 && ascB v p.1 r | none => false) = _
  rw [h]
def pairsB (v : D → Bool) : D → Bool
  | .tup xs => ascB v (Str.ofString "") xs
  | _ => false
def stP (pair j : D) : Step D D := match pairK pair, j with
  | some p, .str last => if (wordB (.str p.1) && ltQ last p.1) = true then .go (.str p.1) else .out (.bl false)
  | _, _ => .out (.bl false)
theorem run_pairs : ∀ (xs : List D) (last : Str), (joinK (fun _ => ret (.bl true)) (runS stP xs (.str last)) : W D) = ret (.bl (ascB (fun _ => true) last xs))
  | [], _ => rfl
  | x :: xs, last => by
    cases q : pairK x with
    | none =>
      rw [ascB_none q]
      unfold runS
      rw [show stP x (.str last) = .out (.bl false) by unfold stP; rw [q]]
      rfl
    | some p =>
      rw [ascB_some q]
      have e : stP x (.str last) = if (wordB (.str p.1) && ltQ last p.1) = true then .go (.str p.1) else .out (.bl false) := by unfold stP; rw [q]
      unfold runS
      rw [e]
      cases h : (wordB (.str p.1) && ltQ last p.1) with
      | true =>
        rw [if_pos rfl]
        show joinK _ (runS stP xs (.str p.1)) = _
        rw [run_pairs xs p.1, Bool.true_and, Bool.true_and]
      | false => rfl
theorem asc_shape {v : D → Bool} : ∀ {xs : List D} {last : Str}, ascB v last xs = true → ∀ x ∈ xs, ∃ a y, x = .tup [.str a, y] ∧ wordB (.str a) = true ∧ v y = true
  | [], _, _, x, hx => nomatch hx
  | z :: r, last, h, x, hx => by
    cases q : pairK z with
    | none => rw [ascB_none q] at h; cases h
    | some p =>
      rw [ascB_some q] at h
      simp only [Bool.and_eq_true] at h
      rcases List.mem_cons.mp hx with rfl | hx
      · exact ⟨p.1, p.2, pairK_some q, h.1.1.1, h.1.2⟩
      · exact asc_shape h.2 x hx
theorem asc_all (v : D → Bool) (w : D → Bool) (hw : ∀ a y, w (.tup [.str a, y]) = v y) : ∀ (xs : List D) (last : Str), ascB (fun _ => true) last xs = true → xs.all w = ascB v last xs
  | [], _, _ => rfl
  | z :: r, last, h => by
    cases q : pairK z with
    | none => rw [ascB_none q] at h; cases h
    | some p =>
      rw [ascB_some q] at h ⊢
      simp only [Bool.and_eq_true] at h
      have ih := asc_all v w hw r p.1 h.2
      rw [List.all_cons, ih, pairK_some q, hw, h.1.1.1, h.1.1.2]
      rfl
theorem asc_none (v : D → Bool) : ∀ (xs : List D) (last : Str), ascB (fun _ => true) last xs = false → ascB v last xs = false
  | [], _, h => by cases h
  | z :: r, last, h => by
    cases q : pairK z with
    | none => rw [ascB_none q]
    | some p =>
      rw [ascB_some q] at h ⊢
      cases h2 : (wordB (.str p.1) && ltQ last p.1) with
      | false => rfl
      | true =>
        rw [h2] at h
        rw [asc_none v r p.1 (by simpa using h), Bool.and_false]
/-! ### states -/
theorem cut_take (xs : List D) (r : Nat) : cutD xs none (some (r : Int)) = xs.take r := by
  unfold cutD
  rw [HT.sIx_none, HT.sIx_nat, List.drop_zero, Nat.sub_zero]
  by_cases h : r ≤ xs.length
  · rw [Nat.min_eq_left h]
  · rw [Nat.min_eq_right (by omega), List.take_length, List.take_of_length_le (by omega)]
theorem cut_drop (xs : List D) (r : Nat) : cutD xs (some (r : Int)) none = xs.drop r := by
  unfold cutD
  rw [HT.sIx_none, HT.sIx_nat]
  by_cases h : r ≤ xs.length
  · rw [Nat.min_eq_left h, List.take_of_length_le (by rw [List.length_drop]; omega)]
  · rw [Nat.min_eq_right (by omega), List.drop_length, List.drop_of_length_le (by omega), List.take_nil]
theorem succ_cast (r : Nat) : ((r : Int) + 1) = ((r + 1 : Nat) : Int) := rfl
end PL

/-! Dicts with words as keys, and their pairs in order. -/
namespace PL
open PySem PySem.Spec L2
def keyS : Key → Str
  | .inr s => s
  | .inl _ => Str.ofString ""
def keysS (j : List (Key × D)) : List Str := j.map fun kv => keyS kv.1
/-- words for keys, none twice, values as told -/
def DI (v : D → Bool) (j : List (Key × D)) : Prop := (∀ kv ∈ j, ∃ s, kv.1 = .inr s ∧ wordB (.str s) = true ∧ v kv.2 = true) ∧ (j.map (·.1)).Nodup
theorem DI.nil {v : D → Bool} : DI v [] := ⟨fun _ h => (nomatch h), List.nodup_nil⟩
theorem setK1_keys (k : Key) (x : D) : ∀ j : List (Key × D), (setK1 k x j).map (·.1) = j.map (·.1)
  | [] => rfl
  | (a, y) :: r => by
    unfold setK1
    rw [List.map_cons, List.map_cons, setK1_keys k x r]
    split <;> simp [*]
theorem setK1_mem {k : Key} {x : D} : ∀ {j : List (Key × D)} {kv : Key × D}, kv ∈ setK1 k x j → kv ∈ j ∨ (kv = (k, x) ∧ k ∈ j.map (·.1))
  | [], _, h => nomatch h
  | (a, y) :: r, kv, h => by
    unfold setK1 at h
    rcases List.mem_cons.mp h with h | h
    · by_cases e : a = k
      · rw [if_pos e] at h
        exact .inr ⟨by rw [h, e], by rw [List.map_cons, e]; exact List.mem_cons_self⟩
      · rw [if_neg e] at h
        exact .inl (h ▸ List.mem_cons_self)
    · rcases setK1_mem h with h | ⟨h, h2⟩
      · exact .inl (List.mem_cons_of_mem _ h)
      · exact .inr ⟨h, by rw [List.map_cons]; exact List.mem_cons_of_mem _ h2⟩
theorem putD_has {j : List (Key × D)} {k : Key} {x : D} (h : k ∈ j.map (·.1)) : putD j k x = setK1 k x j := by
  unfold putD
  rw [if_pos, setK1_eq]
  obtain ⟨kv, h1, h2⟩ := List.mem_map.mp h
  exact List.any_eq_true.mpr ⟨kv, h1, decide_eq_true h2⟩
theorem putD_not {j : List (Key × D)} {k : Key} {x : D} (h : k ∉ j.map (·.1)) : putD j k x = j ++ [(k, x)] := by
  unfold putD
  rw [if_neg]
  intro q
  obtain ⟨kv, h1, h2⟩ := List.any_eq_true.mp q
  exact h (List.mem_map.mpr ⟨kv, h1, of_decide_eq_true h2⟩)
theorem putD_len (j : List (Key × D)) (k : Key) (x : D) : (putD j k x).length ≤ j.length + 1 := by
  by_cases h : k ∈ j.map (·.1)
  · rw [putD_has h]
    have := congrArg List.length (setK1_keys k x j)
    simp only [List.length_map] at this
    omega
  · rw [putD_not h, List.length_append]
    exact Nat.le_refl _
theorem DI.put {v : D → Bool} {j : List (Key × D)} {s : Str} {x : D} (h : DI v j) (hs : wordB (.str s) = true) (hx : v x = true) : DI v (putD j (.inr s) x) := by
  by_cases q : Sum.inr s ∈ j.map (·.1)
  · rw [putD_has q]
    refine ⟨fun kv hk => ?_, by rw [setK1_keys]; exact h.2⟩
    rcases setK1_mem hk with hk | ⟨rfl, _⟩
    · exact h.1 kv hk
    · exact ⟨s, rfl, hs, hx⟩
  · rw [putD_not q]
    refine ⟨fun kv hk => ?_, ?_⟩
    · rcases List.mem_append.mp hk with hk | hk
      · exact h.1 kv hk
      · rw [List.mem_singleton.mp hk]
        exact ⟨s, rfl, hs, hx⟩
    · rw [List.map_append]
      refine List.nodup_append.mpr ⟨h.2, by simp, fun a ha b hb => ?_⟩
      intro e
      simp at hb
      rw [e, hb] at ha
      exact q ha
theorem DI.mono {v w : D → Bool} {j : List (Key × D)} (h : DI v j) (hw : ∀ x, v x = true → w x = true) : DI w j :=
  ⟨fun kv hk => by obtain ⟨s, a, b, c⟩ := h.1 kv hk; exact ⟨s, a, b, hw _ c⟩, h.2⟩
theorem word_len {s : Str} (h : wordB (.str s) = true) : s.length ≤ 8 := by
  simp only [wordB, Bool.and_eq_true, decide_eq_true_eq] at h
  omega
theorem putW_ok {j : List (Key × D)} {s : Str} {x : D} (h : j.length < 1000000) : putW j (.str s) x = ret (putD j (.inr s) x) := grd_pos (by rw [sizeLine_eq]; omega) _
theorem keysD_ok {v : D → Bool} {j : List (Key × D)} (h : DI v j) (hl : j.length ≤ 1000000) : keysD (.dic j) = ret ((keysS j).map .str) := by
  have e : (j.map fun kv => keyV kv.1) = (keysS j).map .str := by
    unfold keysS
    rw [List.map_map]
    refine List.map_congr_left fun kv hk => ?_
    obtain ⟨s, a, _⟩ := h.1 kv hk
    simp [a, keyV, keyS]
  show grd _ (ret (j.map fun kv => keyV kv.1)) = _
  rw [e]
  refine grd_pos ⟨by rw [sizeLine_eq]; omega, fun kv hk t et => ?_⟩ _
  obtain ⟨s, a, b, _⟩ := h.1 kv hk
  rw [a] at et
  cases et
  have := word_len b
  rw [sizeLine_eq]
  omega
theorem txts_strs : ∀ ss : List Str, txts (ss.map .str) = some ss
  | [] => rfl
  | s :: ss => by
    show (txts (ss.map _)).map _ = _
    rw [txts_strs ss]
    rfl
theorem sortW_ok {ss : List Str} (h : ss.length < 64) : sortW (.lst (ss.map .str)) = ret ((sortT ss).map .str) := by
  show (match txts (ss.map .str) with | some ss => grd (ss.length < 64) (ret ((sortT ss).map .str)) | none => stuck : W (List D)) = _
  rw [txts_strs]
  exact grd_pos h _
theorem keysS_nodup {v : D → Bool} {j : List (Key × D)} (h : DI v j) : (keysS j).Nodup := by
  have e : (keysS j).map Sum.inr = j.map (fun kv => kv.1) := by
    unfold keysS
    rw [List.map_map]
    refine List.map_congr_left fun kv hk => ?_
    obtain ⟨s, a, _⟩ := h.1 kv hk
    simp [a, keyS]
  have q := h.2
  rw [← e] at q
  exact List.Pairwise.imp (fun {a b} h e => h (congrArg Sum.inr e)) (List.pairwise_map.mp q)
theorem keysS_word {v : D → Bool} {j : List (Key × D)} (h : DI v j) {s : Str} (hs : s ∈ keysS j) : wordB (.str s) = true := by
  obtain ⟨kv, hk, rfl⟩ := List.mem_map.mp hs
  obtain ⟨s, a, b, _⟩ := h.1 kv hk
  rw [a]
  exact b
theorem valD_some {v : D → Bool} {j : List (Key × D)} (h : DI v j) {s : Str} (hs : s ∈ keysS j) : ∃ x, valD j (.inr s) = some x ∧ v x = true := by
  have q : (j.find? fun kv => decide (kv.1 = .inr s)).isSome := by
    rw [List.find?_isSome]
    obtain ⟨kv, hk, e⟩ := List.mem_map.mp hs
    obtain ⟨t, a, _⟩ := h.1 kv hk
    refine ⟨kv, hk, decide_eq_true ?_⟩
    rw [a] at e ⊢
    exact congrArg Sum.inr e
  obtain ⟨kv, e⟩ := Option.isSome_iff_exists.mp q
  refine ⟨kv.2, by unfold valD; rw [e]; rfl, ?_⟩
  obtain ⟨_, _, _, c⟩ := h.1 kv (List.mem_of_find?_eq_some e)
  exact c
def valS (j : List (Key × D)) (s : Str) : D := (valD j (.inr s)).getD .non
theorem dgetD_ok {v : D → Bool} {j : List (Key × D)} (h : DI v j) {s : Str} (hs : s ∈ keysS j) : dgetD (.dic j) (.str s) = ret (valS j s) := by
  obtain ⟨x, e, _⟩ := valD_some h hs
  show bnd (ret (Sum.inr s)) (fun kk => optW (valD j kk)) = _
  rw [bnd_ret, e]
  unfold valS
  rw [e]
  rfl
/-- a dict's pairs, by their keys in order -/
def pairsOf (j : List (Key × D)) : List D := (sortT (keysS j)).map fun s => .tup [.str s, valS j s]
theorem sortT_perm (ss : List Str) : (sortT ss).Perm ss := List.mergeSort_perm ss leS
theorem sortT_mem {ss : List Str} {s : Str} : s ∈ sortT ss ↔ s ∈ ss := (sortT_perm ss).mem_iff
theorem sortT_len (ss : List Str) : (sortT ss).length = ss.length := (sortT_perm ss).length_eq
theorem sortT_pw (ss : List Str) : (sortT ss).Pairwise fun a b => leS a b = true := List.pairwise_mergeSort leS_trans leS_total ss
theorem lt_of_le_ne {a b : Str} (h : leS a b = true) (hn : a ≠ b) : ltQ a b = true := by
  unfold ltQ
  refine decide_eq_true ?_
  rw [leS_iff] at h
  refine Classical.byContradiction fun q => hn (leS_anti a b ?_ ?_)
  · rw [leS_iff]; exact h
  · rw [leS_iff]; exact q
theorem sortT_lt {ss : List Str} (h : ss.Nodup) : (sortT ss).Pairwise fun a b => ltQ a b = true := by
  have h1 := sortT_pw ss
  have h2 : (sortT ss).Pairwise (· ≠ ·) := (sortT_perm ss).nodup_iff.mpr h
  exact (List.Pairwise.and h1 h2).imp fun ⟨a, b⟩ => lt_of_le_ne a b
theorem nil_lt {s : Str} (h : wordB (.str s) = true) : ltQ (Str.ofString "") s = true := by
  simp only [wordB, Bool.and_eq_true, decide_eq_true_eq] at h
  unfold ltQ
  refine decide_eq_true ?_
  have e : (Str.ofString "").cps.toList = [] := by decide +kernel
  rw [e]
  have hl : s.length = s.cps.toList.length := by rw [Array.length_toList]; rfl
  cases q : s.cps.toList with
  | nil => rw [q] at hl; simp at hl; omega
  | cons a l => exact List.nil_lt_cons a l
theorem asc_map {v : D → Bool} {f : Str → D} : ∀ {ss : List Str} {last : Str}, (∀ s ∈ ss, wordB (.str s) = true ∧ v (f s) = true) → (∀ s ∈ ss, ltQ last s = true) → (ss.Pairwise fun a b => ltQ a b = true) → ascB v last (ss.map fun s => .tup [.str s, f s]) = true
  | [], _, _, _, _ => rfl
  | s :: ss, last, h, h2, h3 => by
    rw [List.map_cons, ascB_some (p := (s, f s)) rfl]
    have q := h s List.mem_cons_self
    have h4 := List.pairwise_cons.mp h3
    rw [q.1, q.2, h2 s List.mem_cons_self, asc_map (fun t ht => h t (List.mem_cons_of_mem _ ht)) h4.1 h4.2]
    rfl
theorem pairsOf_asc {v : D → Bool} {j : List (Key × D)} (h : DI v j) : ascB v (Str.ofString "") (pairsOf j) = true := by
  refine asc_map (fun s hs => ?_) (fun s hs => nil_lt (keysS_word h (sortT_mem.mp hs))) (sortT_lt (keysS_nodup h))
  obtain ⟨x, e, hx⟩ := valD_some h (sortT_mem.mp hs)
  refine ⟨keysS_word h (sortT_mem.mp hs), ?_⟩
  unfold valS
  rw [e]
  exact hx
/-- tuple([(key, d[key]) for key in sorted(list(d))]) -/
theorem pairs_ret {v : D → Bool} {j : List (Key × D)} (h : DI v j) (hl : j.length < 64) :
    (bnd (keysD (.dic j)) fun xs => bnd (sortW (.lst xs)) fun xs1 => bnd (mapP (fun label1 => bnd (dgetD (.dic j) label1) fun y2 => ret (.tup [label1, y2])) xs1) fun xs2 => ret (.tup xs2) : W D) = ret (.tup (pairsOf j)) := by
  have hk : (keysS j).length < 64 := by unfold keysS; rw [List.length_map]; exact hl
  rw [keysD_ok h (by omega), bnd_ret, sortW_ok hk, bnd_ret, mapP_ret (g := fun k => match k with | .str s => .tup [.str s, valS j s] | _ => .non) (by rw [List.length_map, sortT_len]; omega) (fun x hx => by
    obtain ⟨s, hs, rfl⟩ := List.mem_map.mp hx
    rw [dgetD_ok h (sortT_mem.mp hs)]
    rfl), bnd_ret, List.map_map]
  rfl
theorem pairsOf_len (j : List (Key × D)) : (pairsOf j).length = j.length := by
  unfold pairsOf keysS
  rw [List.length_map, sortT_len, List.length_map]
end PL

/-! {**a, **b} and dict(tuple of pairs), on the machine. -/
namespace PL
open PySem PySem.Spec L2
open Sem (wp)
section
variable {prog : Program} {w : World} {K : Type} [DecidableEq K] {knd : KeyKind prog w K} {A : Around} {E : Value → Shared → Prop} {s : Shared}
end
end PL

/-! {**a, **b} over the hand layer's heap. -/
namespace PL
open PySem PySem.Spec L2
section
variable {X : Cx}
end
end PL

/-! dict(..), d.get(..), {**a, **b}, lists made over a dict's keys. -/
namespace PL
open PySem PySem.Spec L2
/-! ### dict(tuple of pairs) -/
section
variable {X : Cx} {pins : List (Addr × Obj)} {σ : L2.St} {H : Hp} {s : Shared}
end
/-! ### pairs as data -/
section
variable {K : PySem.W.Frag} {S : Addr → Prop} {H : Hp}
end
section
variable {G : PenK} {X : Cx} {Wx : WX} {c : C} {σ : L2.St} {ρ : Env} {H : Hp} {n : Nt}
theorem GlK.new {P : List (Key × D) → Nt → Prop} {Q : VK} (h : GlK G X c σ ρ H P Q) {xs : List (Key × D)} {a : Addr} {vs : List (Key × V)} (p : P xs n) (I : SI G X.K c σ H ρ n) (hp : H a = none) (r : RepK X.K c.S H xs vs) : Q (.ref a) (upd H a (.dK vs)) := by
  obtain ⟨I2, g2, f⟩ := SI.bare (o := .dK vs) I hp
  exact h xs n a vs c.S _ p g2 I2 upd_same (RepK.grow g2 _ _ r) f
end
end PL

/-! d.get(k), {**a, **b}, [.. for key in d ..]. -/
namespace PL
open PySem PySem.Spec L2
section
variable {G : PenK} {X : Cx} {Wx : WX}
/-! ### d.get(k) -/
/-! ### dicts that are only read or made anew: nothing else is laid or changed -/
end
/-! ### [.. for key in d ..]: the dict is locked meanwhile -/
def C.free (c : C) (d : Addr) : C := { c with H0 := fun a => if a = d then none else c.H0 a }
mutual
theorem Rep.rd {K : PySem.W.Frag} {S : Addr → Prop} {H H' : Hp} (hl : ∀ a xs, S a → H a = some (.lst xs) → H' a = some (.lst xs)) (ht : ∀ a xs, S a → PlT H a xs → PlT H' a xs) (hd : (∀ a kws, S a → Rd H a (.dK kws) → Rd H' a (.dK kws)) ∧ ∀ a C dx fs, S a → H a = some (.ins C dx fs) → H' a = some (.ins C dx fs)) : ∀ (x : D) (v : V), Rep K S H x v → Rep K S H' x v
  | .non, _, h => h
  | .bl _, _, h => h
  | .int _, _, h => h
  | .str _, _, h => h
  | .lst xs, _, h => by
    obtain ⟨a, vs, e, ⟨r1, r2⟩, z, q⟩ := h
    exact ⟨a, vs, e, ⟨r1, hl a _ r1 r2⟩, z, Reps.rd hl ht hd xs vs q⟩
  | .tup xs, _, h => by
    obtain ⟨a, vs, e, r, z, q⟩ := h
    exact ⟨a, vs, e, r.elim (fun ⟨r1, r2⟩ => .inl ⟨r1, ht a _ r1 r2⟩) .inr, z, Reps.rd hl ht hd xs vs q⟩
  | .dic kvs, _, h => by
    obtain ⟨a, kws, e, ⟨r1, r2⟩, q⟩ := h
    exact ⟨a, kws, e, ⟨r1, hd.1 a _ r1 r2⟩, RepK.rd hl ht hd kvs kws q⟩
  | .ins _ _ x, _, h => by
    obtain ⟨a, C, dx, w, e, i, ⟨r1, r2⟩, q⟩ := h
    exact ⟨a, C, dx, w, e, i, ⟨r1, hd.2 a _ _ _ r1 r2⟩, Rep.rd hl ht hd x w q⟩
theorem Reps.rd {K : PySem.W.Frag} {S : Addr → Prop} {H H' : Hp} (hl : ∀ a xs, S a → H a = some (.lst xs) → H' a = some (.lst xs)) (ht : ∀ a xs, S a → PlT H a xs → PlT H' a xs) (hd : (∀ a kws, S a → Rd H a (.dK kws) → Rd H' a (.dK kws)) ∧ ∀ a C dx fs, S a → H a = some (.ins C dx fs) → H' a = some (.ins C dx fs)) : ∀ (xs : List D) (vs : List V), Reps K S H xs vs → Reps K S H' xs vs
  | [], _, h => h
  | x :: xs, _, h => by
    obtain ⟨v, ws, e, r, q⟩ := h
    exact ⟨v, ws, e, Rep.rd hl ht hd x v r, Reps.rd hl ht hd xs ws q⟩
theorem RepK.rd {K : PySem.W.Frag} {S : Addr → Prop} {H H' : Hp} (hl : ∀ a xs, S a → H a = some (.lst xs) → H' a = some (.lst xs)) (ht : ∀ a xs, S a → PlT H a xs → PlT H' a xs) (hd : (∀ a kws, S a → Rd H a (.dK kws) → Rd H' a (.dK kws)) ∧ ∀ a C dx fs, S a → H a = some (.ins C dx fs) → H' a = some (.ins C dx fs)) : ∀ (xs : List (Key × D)) (vs : List (Key × V)), RepK K S H xs vs → RepK K S H' xs vs
  | [], _, h => h
  | (k, x) :: xs, _, h => by
    obtain ⟨v, ws, e, r, q⟩ := h
    exact ⟨v, ws, e, Rep.rd hl ht hd x v r, RepK.rd hl ht hd xs ws q⟩
end
section
variable {G : PenK} {K : PySem.W.Frag} {c : C} {σ : L2.St} {ρ : Env} {H H' : Hp} {n k : Nt} {d : Addr} {o : Obj} {kws : List (Key × V)}
theorem RepX.rd {S : Addr → Prop} {mg : Str → Option Value} {x : Exc} {cls : Value} {dd : Option Addr} (f : ∀ x v, Rep K S H x v → Rep K S H' x v) (hx : ∀ a fv, H a = some (.xd fv) → H' a = some (.xd fv)) (h : RepX K mg S H x cls dd) : RepX K mg S H' x cls dd := by
  obtain ⟨A, h1, h2, h3⟩ := h
  exact ⟨A, h1, h2, h3.imp id fun ⟨d, fv, e, hs, hd, p⟩ => ⟨d, fv, e, hs, hx d fv hd, repX_pair f p⟩⟩
theorem LamOk.rd {S : Addr → Prop} {b : Addr} {q : Str} {τ : L2.St} {ds : List (Option D)} (f : ∀ x v, Rep K S H x v → Rep K S H' x v) (he : ∀ a φ, H a = some (.ext φ) → H' a = some (.ext φ)) (h : LamOk K S H b q τ ds) : LamOk K S H' b q τ ds := by
  obtain ⟨h1, h2, h3, h4⟩ := h
  refine ⟨h1, he b _ h2, h3, fun i x e => ?_⟩
  obtain ⟨v, e1, r⟩ := h4 i x e
  exact ⟨v, e1, f x v r⟩
theorem TabI.rd {S : Addr → Prop} {P : Addr} {q : Str} (he : ∀ a φ, H a = some (.ext φ) → H' a = some (.ext φ)) (e : H' P = H P) (h : TabI S H P q) : TabI S H' P q := by
  obtain ⟨ps, h1, h2, h3⟩ := h
  refine ⟨ps, e.trans h1, h2, fun pos cv z => ?_⟩
  obtain ⟨c, e1, e2, e3⟩ := h3 pos cv z
  exact ⟨c, e1, e2, he c _ e3⟩
theorem TabI.ne {S : Addr → Prop} {P b : Addr} {q : Str} {o : HO} (h : TabI S H P q) (e : H b = some o) (n : ∀ ps, o ≠ .tbl ps) : P ≠ b := by
  obtain ⟨ps, h1, _⟩ := h
  intro z
  rw [z, e] at h1
  exact n ps (Option.some.inj h1)
theorem NdOk.rd {K : PySem.W.Frag} {S : Addr → Prop} {H H' : Hp} {a : Addr} {nd : Nd} (f : ∀ d v, Rep K S H d v → Rep K S H' d v) (e : H' a = H a) (h : NdOk K S H a nd) : NdOk K S H' a nd := h.move e
end
end PL

/-! [.. for key in d ..] -/
namespace PL
open PySem PySem.Spec L2
section
variable {G : PenK} {X : Cx} {Wx : WX}
end
end PL

/-! sorted of pairs (text, int). -/
namespace PL
open PySem PySem.Spec PyProof.Rows L2
open SrtO hiding Str
def IsSI (h : Heap) (v : Value) (x : Str) (y : Int) : Prop := ∃ a o t u n, v = .ref a ∧ h.get? a = some o ∧ o.cls = .type "tuple" ∧ o.data = .seq #[.str x t, .int y u] n
theorem IsSI.keeps {h h' : Heap} {v : Value} {x : Str} {y : Int} (p : IsSI h v x y) (k : ∀ b o, h.get? b = some o → o.cls = .type "tuple" → h'.get? b = some o) : IsSI h' v x y := by
  obtain ⟨a, o, t, u, n, e, ho, hc, hd⟩ := p
  exact ⟨a, o, t, u, n, e, k _ _ ho hc, hc, hd⟩
section
variable {prog : Program} {w : World} {A : Around} {E : Value → Shared → Prop} {s : Shared}
end
section
variable {X : Cx} {pins : List (Addr × Obj)} {σ : L2.St} {H : Hp} {s : Shared}
end
section
variable {G : PenK} {X : Cx} {Wx : WX}
end
end PL

/-! a, b = x, y with local names: no pair is made. -/
namespace PL
open PySem PySem.Spec L2
section
variable {G : PenK} {X : Cx} {Wx : WX} {γ : Type} {En : Enz γ} {ρ : Env} {rest : List Stmt} {m : W γ}
end
end PL

/-! range(a, b, -1); a, b, c, d = e. -/
namespace PL
open PySem PySem.Spec L2
section
variable {G : PenK} {X : Cx} {Wx : WX}
end
end PL

/-! zip of two lists or two tuples: each pair told by its object. -/
namespace PL
open PySem PySem.Spec PyProof.Rows L2 RZ
end PL

/-! for x, y in zip(a, b) -/
namespace PL
open PySem PySem.Spec L2
section
variable {G : PenK} {K : PySem.W.Frag} {S : Addr → Prop} {H : Hp} {a b : Addr} {xs ys : List D} {vs ws : List V}
end
section
variable {G : PenK} {X : Cx} {Wx : WX}
end
end PL

/-! x += e of ints; sum, max, min of ints. -/
namespace PL
open PySem PySem.Spec L2
section
variable {G : PenK} {X : Cx} {Wx : WX} {γ : Type} {En : Enz γ} {ρ : Env} {rest : List Stmt} {m : W γ}
end
/-! ### sums -/
section
variable {G : PenK} {X : Cx} {Wx : WX}
end
end PL

/-! a law's def over any source of draws. -/
namespace PL
open PySem PySem.Spec PyProof.Rows L2
/-- the source is made of the script -/
def spFeedK (G : PenK) (K : PySem.W.Frag) : Sp := fun vs H Q _ => ∃ (a : Addr) (ns : List Int), vs = [.ref a] ∧ SqL K H a (ns.map V.int) ∧ ns.length ≤ 63 ∧ ∀ H' p b, G.inv H' p b 0 → (∀ P ps, H P = some (.tbl ps) → H' P = some (.tbl ps)) → Q (.ref p) H'
/-- what the law's def promises, its tables of code objects empty at first -/
def spLawT (K : PySem.W.Frag) (T : List (Addr × Str)) : Sp := fun vs H Q _ => ∃ (a : Addr) (ns : List Int), vs = [.ref a] ∧ SqL K H a (ns.map V.int) ∧ ns.length ≤ 63 ∧ (∀ q ∈ T, H q.1 = some (.tbl #[])) ∧ ∀ H', Q (.bl true) H'
theorem law_defKC (G : PenK) {P : Program} {w : World} {K : PySem.W.Frag} {mg : Str → Option Value} {base : Heap} {k : Nat} {f ff : Addr} {fd fdf : FuncData} {st : Stmt} {N NR : List Str} {fn x0 x1 : Str} {px p p2 p3 px' : Pos} {rest : List Stmt} {b : W D} (F : Fun K "law" "law" st f fd) (S : FnScope N [x0] (defScope st))
    (hst : defBody st = .Assign [.Name x1 px] (.Call (.Name fn p) [.Name x0 p2] [] p3) px' :: rest) (hN : N = x0 :: x1 :: NR) (hf : (defScope st).names.lookup fn = some .globalImplicit) (hx0 : (defScope st).names.lookup x0 = some .local) (hx1 : Loc (defScope st) x1)
    (hd0 : (x0 == ("__debug__" : Str)) = false) (hc0 : (x0 == ("__classdict__" : Str)) = false) (hdf : (fn == ("__debug__" : Str)) = false)
    (GF : FnG P w K mg base k ff fdf [x0] (spFeedK G K)) (gF : mg fn = some (.ref ff)) (kF : PySem.W.keepIn K (.ref ff) = true) (bF : Binds K fdf [x0] [])
    (body : ∀ (cdv : Value) (A : Around) (outer : List PySem.Env) (s : Shared) (H : Hp) (E : XK) (Wx : WX), fd.code = cdv → A.guards = some [] → Room k (A.deeper (envOfC "law" (defScope st) s.heap.objs.size f cdv)) → Takes (cxOf (L2.CX P w) P w K mg base N "law" (defScope st) f cdv A outer s H E) Wx →
      PassesOwn (model P w) (A.deeper (envOfC "law" (defScope st) s.heap.objs.size f cdv)) (envOfC "law" (defScope st) s.heap.objs.size f cdv) (cxOf (L2.CX P w) P w K mg base N "law" (defScope st) f cdv A outer s H E).xe → SG G (cxOf (L2.CX P w) P w K mg base N "law" (defScope st) f cdv A outer s H E) Wx rest (.un :: .pen :: List.replicate NR.length .un) EnT b)
    (holds : b n0 (fun d _ => d = .bl true) (fun _ _ => False)) : FnG P w K mg base (k + 1) f fd [x0] (spLawT K G.tab) := by
  subst hN
  refine FnG.of_bodyC F S (fun vs H Q E ⟨a, ns, e, _⟩ => by rw [e]; rfl) fun cdv A outer s H vs Q E hcc hg hr ⟨a, ns, e, hS, hl, htb, q⟩ => ?_
  subst e
  have hb := body cdv A outer s H E (fun cls d _ H => E cls d H) hcc hg hr (L2.takes_of rfl rfl rfl rfl) (passes_of rfl)
  rw [hst]
  refine ⟨_, pss_cons (ps_set (i := 1) S.nd rfl hx1 (pe_callG (Wx := fun cls d _ H => E cls d H) GF hg hr (L2.takes_of rfl rfl rfl rfl) hf gF kF bF (pa_cons (pe_var (i := 0) rfl (.inl hx0) hd0 hc0) pa_nil) hdf)) hb, ?_⟩
  refine ⟨.ref a, rfl, a, ns, rfl, hS, hl, fun H' p b gp ktb => ?_⟩
  have hlen : (L2.start (x0 :: x1 :: NR) [V.ref a]).set 1 (some (.ref p)) = some (.ref a) :: some (.ref p) :: List.replicate NR.length none := by
    unfold L2.start
    show (some (V.ref a) :: (List.replicate ((NR.length + 1 + 1) - 1) none)).set 1 _ = _
    rw [Nat.add_sub_cancel, List.replicate_succ]
    rfl
  have tb : ∀ q ∈ G.tab, H' q.1 ≠ none ∧ TabI (fun _ => False) H' q.1 q.2 := fun q hq => by
    have e := ktb _ _ (htb q hq)
    refine ⟨(by rw [e]; exact fun z => (nomatch z)), #[], e, True.intro, fun pos cv z => ?_⟩
    have z : codeAmong pos [] = some cv := z
    simp [codeAmong] at z
  show tG G _ _ _ _ _ _ ((L2.start (x0 :: x1 :: NR) [V.ref a]).set 1 (some (.ref p))) H'
  rw [hlen]
  refine ⟨⟨fun _ => False, H', some (p, b), fun a => H' a ≠ none, fun _ => False⟩, n0, _, _, ⟨by simp, fun i sv e => ?_, fun i sv x e ho => ?_, fun i j sv sv' x _ e _ ho => ?_, fun _ h => h.elim, fun _ _ e _ => e, fun z e => ?_, fun _ h => ⟨fun z => z, h⟩, (fun q hq => tb q hq), (fun _ _ e => nomatch e), fun _ h => h.elim, fun _ _ => rfl⟩, holds, ⟨?_, ?_, fun _ _ _ _ _ _ z => z.elim, fun _ _ _ _ _ _ z => z.elim⟩, fun _ _ _ _ _ _ _ _ z => z.elim⟩
  · match i, e with
    | 0, e => cases e; trivial
    | 1, e => cases e; exact ⟨(p, b), rfl, rfl⟩
    | i + 2, e =>
      have e : (List.replicate NR.length SV.un)[i]? = some sv := e
      rw [List.getElem?_replicate] at e
      split at e
      · cases e; trivial
      · cases e
  · exfalso
    match i, e with
    | 0, e => cases e; cases ho
    | 1, e => cases e; cases ho
    | i + 2, e =>
      have e : (List.replicate NR.length SV.un)[i]? = some sv := e
      rw [List.getElem?_replicate] at e
      split at e
      · cases e; cases ho
      · cases e
  · exfalso
    match i, e with
    | 0, e => cases e; cases ho
    | 1, e => cases e; cases ho
    | i + 2, e =>
      have e : (List.replicate NR.length SV.un)[i]? = some sv := e
      rw [List.getElem?_replicate] at e
      split at e
      · cases e; cases ho
      · cases e
  · cases e
    exact ⟨gp, fun z => z, fun z => z, (G.there gp).1, (G.there gp).2⟩
  · rintro ρ' _ k σ' S' H2 rfl p g I
    exact nomatch (show D.non = D.bl true from p)
  · rintro d _ k v σ' ρ' S' H2 rfl p g I r
    have p : d = D.bl true := p
    subst p
    cases r
    exact q H2
end PL

/-! d.pop(k), d.pop(k, x) as statements; k in d. -/
namespace PL
open PySem PySem.Spec L2
def dropD (kvs : List (Key × D)) (k : Key) : List (Key × D) := kvs.filter fun kv => decide (kv.1 ≠ k)
theorem RepK.drop {K : PySem.W.Frag} {S : Addr → Prop} {H : Hp} : ∀ {kvs : List (Key × D)} {kws : List (Key × V)} (k : Key), RepK K S H kvs kws → RepK K S H (dropD kvs k) (dropK kws k)
  | [], _, k, h => by
    have e : _ = [] := h
    rw [e]
    rfl
  | (j, x) :: xs, _, k, h => by
    obtain ⟨v, ws, rfl, r, q⟩ := h
    have ih := RepK.drop k q
    unfold dropD dropK at ih ⊢
    rw [List.filter_cons, List.filter_cons]
    by_cases e : j = k
    · simp only [e, ne_eq, not_true_eq_false, decide_false, Bool.false_eq_true, if_false]
      simpa using ih
    · simp only [ne_eq, e, not_false_eq_true, decide_true, if_true]
      exact ⟨v, _, rfl, r, by simpa using ih⟩
section
variable {G : PenK} {X : Cx} {Wx : WX} {γ : Type} {En : Enz γ} {ρ : Env} {rest : List Stmt} {m : W γ}
end
section
variable {G : PenK} {X : Cx} {Wx : WX}
end
end PL

set_option maxHeartbeats 2000000
/-! list(d.items()): each pair told by its object. -/
namespace PL
open PySem PySem.Spec PyProof.Rows L2 LiI
section
variable {X : Cx} {e : Expr} {te : TE} {p apos cpos pos : Pos}
end
end PL

/-! list(d.items()), by values. -/
namespace PL
open PySem PySem.Spec L2
section
variable {G : PenK} {K : PySem.W.Frag} {c : C} {σ : L2.St} {ρ : Env} {H H' : Hp} {n : Nt}
/-- several new things are laid at once -/
theorem SI.ext (I : SI G K c σ H ρ n) (k : ∀ b o, H b = some o → H' b = some o) (T : Addr → Prop) (hT : ∀ t, T t → H t = none ∧ H' t ≠ none) : SI G K (c.to fun a => c.S a ∨ T a) σ H' ρ n ∧ Grow c.S (fun a => c.S a ∨ T a) H H' := by
  have eq : ∀ a, H a ≠ none → H' a = H a := fun a h => by
    cases e : H a with
    | none => exact absurd e h
    | some o => exact k a o e
  have g : Grow c.S (fun a => c.S a ∨ T a) H H' := ⟨fun _ h => .inl h, fun a h => eq a (I.dom a h)⟩
  refine ⟨⟨I.len, fun i sv e => (I.slots i sv e).grow g fun a ea ho => eq a (I.own_there ⟨i, sv, e, ho, ea⟩), fun i sv a e ho es => ⟨fun z => z.elim (I.own i sv a e ho es).1 fun z => I.own_there ⟨i, sv, e, ho, es⟩ (hT a z).1, (I.own i sv a e ho es).2⟩, I.apart, fun a h => ?_, fun a o e hn => k a o (I.fr a o e hn), fun p e => ?_, fun a h => ⟨fun z => z.elim (I.no a h).1 fun z => (I.no a h).2 (I.freeOld (hT a z).1), (I.no a h).2⟩, fun q e => ⟨(I.tab q e).1, (I.tab q e).2.grow g (eq _ (I.tabN e).2.2)⟩, fun a nd e => ⟨(I.mu a nd e).1.grow g (eq _ (I.mu a nd e).1.there), fun z => Or.elim z (I.mu a nd e).2.1 fun z => (I.mu a nd e).1.there (hT a z).1, (I.mu a nd e).2.2⟩, I.mu0, I.mz⟩, g⟩
  · rcases h with h | h
    · rw [eq a (I.dom a h)]; exact I.dom a h
    · exact (hT a h).2
  · obtain ⟨h1, h2, h3, h4, h5⟩ := I.pen p e
    obtain ⟨k1, k2⟩ := G.there h1
    exact ⟨G.dep h1 (eq _ k1) (eq _ k2), fun z => z.elim h2 fun z => k1 (hT _ z).1, fun z => z.elim h3 fun z => k2 (hT _ z).1, h4, h5⟩
end
section
variable {G : PenK} {X : Cx} {Wx : WX}
end
end PL

namespace PL
open PySem PySem.Spec L2
/-- range of a written number, closed against unrolling -/
@[irreducible] def rngK (i : Int) : W (List Int) := rngI i
theorem rngK_eq (i : Int) : rngK i = rngI i := by unfold rngK; rfl
theorem w_rngK {G : PenK} {X : Cx} {Wx : WX} {tg e : Expr} {i : Int} (h : Wk G X Wx tg e (fun _ => bnd (bnd (ret (.int i)) rngD) fun ys => ret (ys.map .int))) : Wk G X Wx tg e (fun _ => bnd (rngK i) fun ys => ret (ys.map .int)) := by
  unfold rngK; exact h
end PL

/-! sorted of any list of pairs (text, int). -/
namespace PL
open PySem PySem.Spec PyProof.Rows L2
open SrtO hiding Str
section
variable {prog : Program} {w : World} {A : Around} {E : Value → Shared → Prop} {s : Shared}
end
section
variable {X : Cx}
end
section
variable {G : PenK} {X : Cx} {Wx : WX}
end
end PL

/-! What is never reached (raise); expressions as statements; {**d, k: v}; d.get(k, x); items of a list of one's own; while. -/
namespace PL
open PySem PySem.Spec PyProof.Rows L2
section
variable {G : PenK} {X : Cx} {Wx : WX} {γ : Type} {En : Enz γ} {ρ : Env} {rest : List Stmt} {m : W γ}
theorem sg_stuck {ss : List Stmt} : SG G X Wx ss ρ En stuck := weakSs pss_no fun Dn σ H ⟨c, n, P, PX, I, q, _⟩ => q
theorem sg_expr {e : Expr} {pos : Pos} {g : Env → W D} {m0 : W D} (h : E G X Wx e g) (hg : g (bor ρ) = m0) (hr : SG G X Wx rest ρ En m) (hs : swapsWith e none pos.line X.env = pure false := by rfl) : SG G X Wx (.Expr e pos :: rest) ρ En (bnd m0 fun _ => m) :=
  weakSs (pss_cons (ps_expr h hs) hr) fun Dn σ H ⟨c, n, P, PX, I, q, hgl, hx⟩ => by
    obtain ⟨I2, g2⟩ := I.lend
    subst hg
    refine tE.bnd (f := fun _ => m) I2 q (hx.grow g2).x fun d k' v S' H' p g I' hx' r => ?_
    obtain ⟨I3, g3⟩ := I.back g I'
    exact ⟨_, k', P, PX, I3, p, hgl.grow g3, hx.grow g3⟩
def svAt (ρ : Env) (i : Nat) : SV := (ρ[i]?).getD .un
/-! ### while -/
end
/-! ### {**d, k: v} -/
section
variable {X : Cx}
end
section
variable {G : PenK} {X : Cx} {Wx : WX}
theorem OKx.blk {c : C} {σ : L2.St} {ρ : Env} {H : Hp} {n : Nt} {D : Addr} {o : HO} {PX : Exc → Nt → Prop} (I : SI G X.K c σ H ρ n) (h0 : c.H0 D = none) (hx : OKx G X Wx c σ ρ H PX) : OKx G X Wx (c.blk D o) σ ρ H PX :=
  fun x k S' H' cls dd px g J r => hx x k S' H' cls dd px g (SI.restore (vs := []) I h0 J g (fun _ _ => rfl) (fun _ _ => rfl) rfl).1 r
/-! ### d.get(k, x) -/
/-! ### items of a list of one's own -/
def nmO (ρ : Env) (i : Nat) : W (List D) := match ρ[i]? with
  | some (.own xs) => ret xs
  | _ => stuck
theorem nmO_inv {α : Type} {ρ : Env} {i : Nat} {n : Nt} {f : List D → W α} {P : α → Nt → Prop} {PX : Exc → Nt → Prop} (h : bnd (nmO ρ i) f n P PX) : ∃ xs, ρ[i]? = some (.own xs) ∧ f xs n P PX := by
  have h : nmO ρ i n (fun a k => f a k P PX) PX := h
  unfold nmO at h
  cases e : ρ[i]? with
  | none => rw [e] at h; exact False.elim h
  | some s =>
    rw [e] at h
    cases s with
    | own xs => exact ⟨xs, rfl, h⟩
    | _ => exact False.elim h
/-! ### a tuple of texts among the globals -/
end
end PL

/-! errors: a class over any built-in class, whose own __init__ keeps its one argument in a field. -/
namespace PL
open PySem PySem.Spec PyProof.Rows L2 PySem.Calls Builtin.ObjectAttr
/-- what the written part says of such a class -/
structure OexB (K : PySem.W.Frag) (C : Addr) (bmB : List Value) (newId : String) : Prop where
  ini : PySem.W.excInitIn K C bmB newId = true
  ovr : PySem.W.excOver K C bmB = true
  hd : PySem.W.hasDictIn K C = true
  sa : PySem.W.findIn K (.ref C) "__setattr__" = some (some (.builtin "object.__setattr__"))
  exC : PySem.W.subIn K (.ref C) (.type "BaseException") = some true
  tyC : PySem.W.typeIn K (.ref C) = some (.type "type")
  kC : PySem.W.keepIn K (.ref C) = true
section
variable {prog : Program} {w : World} {A : Around} {R : Result → Shared → Prop} {hp : Heap} {g : Array GenState} {d : Drawn} {t : Nat} {os : OsState} {B : String} {bmB : List Value}
theorem exc_osaB {K : W.Frag} {name : Str} {tk : Tok} {v : Value} {x C : Addr} {fv : Array Value} (SF : StoreFacts B bmB "object.__setattr__" "object")
    (X : K.In hp) (hx : hp.get? x = some { cls := .ref C, data := .fields fv }) (ho : W.excOver K C bmB = true) (hh : W.hasDictIn K C = true) (ha : W.findIn K (.ref C) name = some none)
    (hq : ∀ h' tk' dx, (∀ b o, b ≠ x → hp.get? b = some o → h'.get? b = some o) → hp.objs.size ≤ dx → dx ≠ x → h'.get? x = some { cls := .ref C, dict := some dx, data := .fields fv } →
      h'.Ns1 dx (fun y => if y = name then some v else none) → R (.ok (.ret .none)) ⟨h', g, d, tk', os⟩) :
    codeAny (model prog w) A (.call (.builtin "object.__setattr__") ⟨[.ref x, .str name tk, v], []⟩) R ⟨hp, g, d, t, os⟩ := by
  refine W.osa_openX (r := none) (od := none) SF X ⟨hx, rfl, rfl, trivial⟩ ho (by unfold W.takerIn; rw [ha]; rfl) fun b => ?_
  obtain ⟨cd, hc, hd⟩ := W.any_some hh
  have hxs : x ≠ hp.objs.size := Nat.ne_of_lt (Heap.lt_size hx)
  have hcls : W.Looks (model prog w) hp (classData C) cd := W.looks_clsIn X hc
  obtain ⟨nm, bs, mro, ns, qn, hd', sn, sb, ab, col, del⟩ := cd
  dsimp only at hd
  subst hd
  show wpAny _ _ (storeInOwnDict (.ref x) (.ref C) (.str name tk) name v b) _ _ _
  unfold storeInOwnDict ownDictForStores
  repeat (first | with_reducible refine HandSPX.store_in_new ?_ ?_ | with_reducible refine wpAny_loadPart_at hx ?_ | with_reducible refine hcls.at ?_ | wp_step)
  · exact ⟨_, #[], _, (Heap.get?_update_ne _ _ _ _ hxs.symm).trans (Heap.get?_push_at rfl rfl), rfl, fun e he => absurd he (by simp), fun _ => rfl⟩
  · intro h' tk' hn' hs
    have hx₁ : (hp.push { cls := .type "dict", data := .dict #[] }).get? x = some { cls := .ref C, data := .fields fv } := Heap.get?_push_of_some _ hx
    refine hq h' tk' hp.objs.size (fun b o hb ho => ?_) (Nat.le_refl _) hxs.symm ?_ hn'
    · exact (hs.2 b (Nat.ne_of_lt (Heap.lt_size ho))).trans ((Heap.get?_update_ne _ _ _ _ hb).trans (Heap.get?_push_of_some _ ho))
    · exact (hs.2 x hxs).trans (Heap.get?_update_self _ hx₁ rfl)
end
section
variable {X : Cx} {pins : List (Addr × Obj)} {σ : L2.St} {H : Hp} {s : Shared} {a C : Addr} {f : Str} {y : V} {u : Value} {Q : Unit → Shared → Prop} {E : Value → Shared → Prop} {A : Around} {B newId : String} {bmB : List Value}
/-- self.f = y, the first one -/
theorem ost_newB (SF : StoreFacts B bmB "object.__setattr__" "object") (T : OexB X.K C bmB newId) (I : Inv X pins σ H s) (e : H a = some (exo a C none)) (hno : PySem.W.findIn X.K (.ref C) f = some none) (ry : RelV y u)
    (h : ∀ dx s', H dx = none → dx ≠ a → Inv X pins σ (upd (upd H dx (exd dx [(f, y)])) a (exo a C (some dx))) s' → Q () s') : wpAny (model X.prog X.w) A (setAttr (.ref a) f u) Q E s := by
  obtain ⟨t1, ho⟩ := exo_at I.hok e
  obtain ⟨hp, g, d, t, os⟩ := s
  refine PySem.W.set_plain I.kIn (ox := { cls := .ref C, dict := none, data := .fields #[.ref t1, .none, .none, .none, .bool false, .none] }) (od := none) ⟨ho, rfl, rfl, trivial⟩ T.sa ?_
  refine exc_osaB SF I.kIn ho T.ovr T.hd hno (fun h' tk' dx k dn dne hx hn => ?_)
  have hnd : H dx = none := I.hok.fresh dn
  have old : ∀ {b : Addr} {o : Obj}, hp.get? b = some o → b ≠ dx := fun {b o} q z => absurd (Heap.lt_size (z ▸ q)) (Nat.not_lt.mpr dn)
  have ntr : ∀ {b : Addr}, H b = none → b ≠ a := fun {b} n => fun z => by rw [z, e] at n; cases n
  have sm : ∀ {b : Addr} {v : HO}, H b = some v → v ≠ exo a C none → upd (upd H dx (exd dx [(f, y)])) a (exo a C (some dx)) b = some v := fun {b v} q nv => by
    rw [upd_ne fun z => by rw [z, e] at q; exact nv (Option.some.inj q).symm, upd_ne (ne_of_none q hnd)]
    exact q
  refine h dx _ hnd dne (I.un (t' := tk') ⟨fun b o q n _ _ => k b o (ntr n) q, fun b o q n _ _ => ⟨o.slots, k b o (ntr n) q⟩, fun b o q n _ => (by rw [upd_ne (ntr n), upd_ne (old q)]; exact n), fun b o q _ => ?_, fun b xs q => sm q fun z => exo_tup z.symm, fun b o v q => sm q fun z => exo_frz z.symm, fun b ps q => ⟨#[], by rw [sm q fun z => exo_tbl z.symm]; simp⟩⟩ fun b o q => ?_)
  · rcases Classical.em (b = a) with hb | hb
    · exact ⟨_, by rw [hb]; exact hx⟩
    · exact ⟨o, k b o hb q⟩
  · rcases Classical.em (b = a) with hb | hb
    · subst hb
      rw [upd_same] at q
      cases q
      exact exo_ok hx
    · rw [upd_ne hb] at q
      rcases Classical.em (b = dx) with hd | hd
      · subst hd
        rw [upd_same] at q
        cases q
        exact exd_ok hn (relO_put (fs := []) ry fun g => True.intro)
      · rw [upd_ne hd] at q
        exact (I.hok b o q).stay (fun c v hc z => k c v (hc.elim (fun hc => hc ▸ hb) fun hc => at_ne e hc exo_own) z) (fun c hc => sm hc fun z => exo_own z.symm) fun c xs hc => sm hc fun z => exo_tup z.symm
end
section
variable {X : Cx} {o e : Expr} {to te : TE} {f : Str} {p p' pos : Pos} {B newId initId : String} {bmB : List Value}
def one1 (Q : VK) : List V → Hp → Prop
  | [y], H => Q y H
  | _, _ => False
theorem one1_inv {Q : VK} {vs : List V} {H : Hp} (h : one1 Q vs H) : ∃ y, vs = [y] ∧ Q y H := by
  unfold one1 at h
  split at h
  · exact ⟨_, rfl, h⟩
  · exact h.elim
/-- self.f = e, in an __init__: the first field -/
theorem ps_ostB {C : Addr} (SF : StoreFacts B bmB "object.__setattr__" "object") (T : OexB X.K C bmB newId) (hno : PySem.W.findIn X.K (.ref C) f = some none) (ho : PE X o to) (he : PE X e te) (hs : swapsWith e (some (.Attribute o f p')) pos.line X.env = pure false := by rfl) :
    PS X (.Assign [.Attribute o f p'] e pos) (fun D σ H => te σ H fun y H1 => to σ H1 fun x H2 => ∃ a : Addr, x = .ref a ∧ H2 a = some (exo a C none) ∧ ∀ dx, H2 dx = none → dx ≠ a → D.nx σ (upd (upd H2 dx (exd dx [(f, y)])) a (exo a C (some dx)))) := by
  refine ⟨fun pins s σ H D I h => ?_⟩
  refine plainObj_wpAny_Assign_Attribute (thn (he.run pins s σ H _ I h) fun v s1 ⟨y, H1, I1, r1, q1⟩ => thn (ho.run pins s1 σ H1 _ I1 q1) fun u s2 ⟨x, H2, I2, r2, a, ex, ea, q⟩ => ?_) hs
  subst ex
  obtain rfl : u = Value.ref a := r2
  exact ost_newB SF T I2 ea hno r1 fun dx s' n ne J => ⟨σ, _, J, q dx n ne⟩
def spIni (C : Addr) (f : Str) : Sp := fun vs H Q _ => ∃ (a : Addr) (y : V), vs = [.ref a, y] ∧ H a = some (exo a C none) ∧ ∀ dx, H dx = none → dx ≠ a → Q .non (upd (upd H dx (exd dx [(f, y)])) a (exo a C (some dx)))
/-- what is known of a class with such an __init__ -/
structure IniK (K : PySem.W.Frag) (C fI : Addr) (fd : FuncData) (bmB : List Value) (newId : String) (q : Str) (st : Stmt) (sn vn f : Str) : Prop where
  T : OexB K C bmB newId
  iC : PySem.W.findIn K (.ref C) "__init__" = some (some (.ref fI))
  tI : PySem.W.typeIn K (.ref fI) = some (.type "function")
  F : Fun K "__init__" q st fI fd
  S : FnScope [sn, vn] [sn, vn] (defScope st)
  sb : ∃ p1 p2 p3 p4, defBody st = [.Assign [.Attribute (.Name sn p1) f p2] (.Name vn p3) p4]
  hn : (sn == ("__debug__" : Str)) = false ∧ (sn == ("__classdict__" : Str)) = false ∧ (vn == ("__debug__" : Str)) = false ∧ (vn == ("__classdict__" : Str)) = false
  vs : (defScope st).names.lookup sn = some .local ∧ (defScope st).names.lookup vn = some .local
  no : PySem.W.findIn K (.ref C) f = some none
  bd : Binds K fd [sn, vn] []
theorem ini_ok {P : Program} {w : World} {K : PySem.W.Frag} {mg : Str → Option Value} {base : Heap} {C fI : Addr} {fd : FuncData} {q : Str} {st : Stmt} {sn vn : Str} (SF : StoreFacts B bmB "object.__setattr__" "object") (N : IniK K C fI fd bmB newId q st sn vn f) :
    FnOk P w K mg base (L2.CX P w) 1 fI fd [sn, vn] (spIni C f) := by
  refine Fun.okX N.F N.S (fun vs H Q E ⟨a, y, e, _⟩ => by rw [e]; rfl) fun cdv A outer s H vs Q E hr ⟨a, y, e, ea, h⟩ => ?_
  subst e
  obtain ⟨p1, p2, p3, p4, hb⟩ := N.sb
  rw [hb]
  exact ⟨_, pss_one (ps_ostB SF N.T N.no (pe_var (i := 0) rfl (.inl N.vs.1) N.hn.1 N.hn.2.1) (pe_var (i := 1) rfl (.inl N.vs.2) N.hn.2.2.1 N.hn.2.2.2)), _, rfl, _, rfl, a, rfl, ea, h⟩
theorem pmk_one {x : Str} {C fI : Addr} {fd : FuncData} {q : Str} {st : Stmt} {sn vn : Str} (SF : StoreFacts B bmB "object.__setattr__" "object") (FB : ExcBaseFacts B newId initId bmB) (N : IniK X.K C fI fd bmB newId q st sn vn f) (hr : Room 2 X.A) (hg : Gl X x) (hm : X.mg x = some (.ref C)) (ha : PE X e te)
    (hdb : (x == ("__debug__" : Str)) = false := by decide) (he : starEach [e] X.env = (false, eval e X.env) :: starEach [] X.env := by rfl) (hpl : (backTo pos (starEach [] X.env)).any (·.1) = false := by rfl) :
    PMk X (.Call (.Name x p) [e] [] pos) (fun σ H Q => te σ H fun y H1 => ∀ d, H1 d = none → Q (.ref C) (some d) (upd H1 d (.xd [(f, y)]))) := by
  intro pins s σ H Q I h
  refine wpAny_Call_Name_kw (ld_glob I hg hm ?_ hdb)
  refine PySem.W.callWith_K (h₀ := X.base) I.ok.mod.kin N.T.kC (thn ((pa_cons ha pa_nil he).run pos pins s σ H (one1 fun y H1 => ∀ d, H1 d = none → Q (.ref C) (some d) (upd H1 d (.xd [(f, y)]))) I h) fun us s1 ⟨vs, H1, I1, r1, q1⟩ => ⟨I1.kIn, ?_⟩) he hpl
  obtain ⟨y, ev, q1⟩ := one1_inv q1
  subst ev
  show wpAny _ _ (call (.ref C) us) _ _ _
  obtain ⟨nm, nsN, qn, bs, bm, hdct, sn', sub, ab, col, dd, k0, k1, k2, k3, k5, hC, hT⟩ := PySem.W.excInit_of I1.kIn N.T.ini
  have F1 := ini_ok (P := X.prog) (w := X.w) (mg := X.mg) (base := X.base) SF N
  cases r1 with
  | @cons _ u0 _ ur ra rw' =>
    cases rw'
    obtain ⟨hp, g, dr, tk, os⟩ := s1
    have hsz : hp.objs.size ≤ hp.objs.size + 1 := Nat.le_succ _
    have hn : H1 (hp.objs.size + 1) = none := I1.hok.fresh hsz
    have kk : ∀ b o, hp.get? b = some o → ((hp.push (PySem.W.kdv_tup [u0])).push (PySem.HandSPX.excO C hp.objs.size)).get? b = some o := fun b o e => Heap.get?_push_of_some _ (Heap.get?_push_of_some _ e)
    have hget : ((hp.push (PySem.W.kdv_tup [u0])).push (PySem.HandSPX.excO C hp.objs.size)).get? (hp.objs.size + 1) = some (PySem.HandSPX.excO C hp.objs.size) := by heap_get
    have I2 : Inv X pins σ (upd H1 (hp.objs.size + 1) (exo (hp.objs.size + 1) C none)) ⟨(hp.push (PySem.W.kdv_tup [u0])).push (PySem.HandSPX.excO C hp.objs.size), g, dr, tk, os⟩ :=
      I1.laid (t' := tk) (a := hp.objs.size + 1) (o := exo (hp.objs.size + 1) C none) (h' := (hp.push (PySem.W.kdv_tup [u0])).push (PySem.HandSPX.excO C hp.objs.size)) kk hsz (exo_ok hget)
    have r2 : Vals [V.ref (hp.objs.size + 1), y] [Value.ref (hp.objs.size + 1), u0] := .cons rfl (.cons ra .nil)
    refine wpAny_call (PySem.HandSPX.call_own FB hT hC (PySem.W.looks_findIn I1.kIn N.iC) (fun self => PySem.W.bind_fn I1.kIn self N.tI) (by show 1 ≤ sizeLine; rw [sizeLine_eq]; omega)
      (codeAny_mono (F1.run _ X.stack _ _ ⟨[Value.ref (hp.objs.size + 1), u0], []⟩ [Value.ref (hp.objs.size + 1), u0] _ (fun v H2 => v = .non ∧ ∃ d, H1 d = none ∧ d ≠ hp.objs.size + 1 ∧ H2 = upd (upd (upd H1 (hp.objs.size + 1) (exo (hp.objs.size + 1) C none)) d (exd d [(f, y)])) (hp.objs.size + 1) (exo (hp.objs.size + 1) C (some d))) (fun _ _ _ => False) (hr.make C [u0] []) (I2.env0.make C [u0] []) (N.bd _ [Value.ref (hp.objs.size + 1), u0] I2.kIn rfl) r2
        ⟨hp.objs.size + 1, y, rfl, upd_same, fun dx h1 h2 => ⟨rfl, dx, (upd_ne h2).symm.trans h1, h2, rfl⟩⟩) fun r s' hq' => ?_))
    cases r with
    | error er => exact (passL (X := X) pins σ _ _ er s' I2 hq')
    | ok fl =>
      cases fl with
      | ret u =>
        obtain ⟨v, H2, os2, bare2, un2, hok2, rv, ev, d, hd1, hda, rfl⟩ := hq'
        subst ev
        obtain ⟨h2, g2, d2, t2, os'⟩ := s'
        have q2 := q1 d hd1
        have eH : upd (del (upd (upd (upd H1 (hp.objs.size + 1) (exo (hp.objs.size + 1) C none)) d (exd d [(f, y)])) (hp.objs.size + 1) (exo (hp.objs.size + 1) C (some d))) (hp.objs.size + 1)) d (.xd [(f, y)]) = upd H1 d (.xd [(f, y)]) := by
          funext b
          rcases Classical.em (b = d) with e | e
          · rw [e, upd_same, upd_same]
          · rw [upd_ne e, upd_ne e]
            rcases Classical.em (b = hp.objs.size + 1) with e2 | e2
            · rw [e2, del_same, hn]
            · rw [del_ne e2, upd_ne e2, upd_ne e, upd_ne e2]
        exact ⟨rv, mk_end (raises_own N.T.exC N.T.tyC) I1 hsz kk un2 hok2 os2 bare2 upd_same (by rw [upd_ne hda, upd_same]) hd1 (by rw [eH]; exact q2)⟩
      | next => exact False.elim hq'
      | brk => exact False.elim hq'
      | cont => exact False.elim hq'
end
end PL

/-! try: .. except (X, Y, ..) as e: name = e. The error is kept in the name. -/
namespace PL
open PySem PySem.Spec PyProof.Rows L2
/-! ### the classes of a clause -/
theorem forIn_pass {M : Model} {A : Around} {E : Value → Shared → Prop} {s : Shared} {f : Value → PUnit → Sem (ForInStep PUnit)} : ∀ (cs : List Value) (Q : PUnit → Shared → Prop), (∀ c ∈ cs, ∀ (Q : ForInStep PUnit → Shared → Prop), Q (.yield ⟨⟩) s → wpAny M A (f c ⟨⟩) Q E s) → Q ⟨⟩ s → wpAny M A (forIn cs PUnit.unit f) Q E s
  | [], Q, _, q => by rw [List.forIn_nil]; exact wpAny_pure q
  | c :: cs, Q, h, q => by
    rw [List.forIn_cons]
    exact wpAny_bind (h c List.mem_cons_self _ (forIn_pass cs Q (fun c' hc => h c' (List.mem_cons_of_mem _ hc)) q))
theorem forIn_hit {M : Model} {A : Around} {E : Value → Shared → Prop} {s : Shared} {β : Type} {r0 r1 : β} {hit : Value → Bool} {f : Value → β → Sem (ForInStep β)} : ∀ (cs : List Value) (Q : β → Shared → Prop), (∀ c ∈ cs, ∀ (Q : ForInStep β → Shared → Prop), Q (if hit c = true then .done r1 else .yield r0) s → wpAny M A (f c r0) Q E s) → Q (if cs.any hit = true then r1 else r0) s → wpAny M A (forIn cs r0 f) Q E s
  | [], Q, _, q => by rw [List.forIn_nil]; exact wpAny_pure q
  | c :: cs, Q, h, q => by
    rw [List.forIn_cons]
    refine wpAny_bind (h c List.mem_cons_self _ ?_)
    rw [List.any_cons] at q
    cases e : hit c with
    | true =>
      rw [e, Bool.true_or] at q
      exact wpAny_pure q
    | false =>
      rw [e, Bool.false_or] at q
      exact forIn_hit cs Q (fun c' hc => h c' (List.mem_cons_of_mem _ hc)) q
def hitC (K : W.Frag) (cls c : Value) : Bool := (W.exmOne K cls c).getD false
theorem exmAny_mem {K : W.Frag} {cls : Value} : ∀ {cs : List Value} {b : Bool}, W.exmAny K cls cs = some b → (∀ c ∈ cs, W.exmOne K cls c = some (hitC K cls c)) ∧ b = cs.any (hitC K cls)
  | [], b, h => by
    have h : some false = some b := h
    cases h
    exact ⟨fun _ z => (by cases z), rfl⟩
  | c :: cs, b, h => by
    obtain ⟨b1, d1, h1, h2, h3⟩ := W.exmAny_cons h
    obtain ⟨k1, k2⟩ := exmAny_mem h2
    have e1 : hitC K cls c = b1 := by unfold hitC; rw [h1]; rfl
    refine ⟨fun c' hc => ?_, ?_⟩
    · rcases List.mem_cons.mp hc with e | e
      · rw [e, e1, h1]
      · exact k1 c' e
    · rw [h3, k2, List.any_cons, e1]
theorem exm_tupN {M : Model} {K : W.Frag} {cs : List Value} {cls : Value} {tp e : Addr} {b : Bool} {h : Heap} (X : K.In h) (LT : W.Looks M h (typeOf (.ref e)) cls) (hp : h.get? tp = some { cls := .type "tuple", data := .seq cs.toArray }) (hx : W.exmAny K cls cs = some b) :
    W.Looks M h (excMatches (.ref e) (.ref tp)) b := by
  intro A Q E s k₀ q
  obtain ⟨hh, g, d, tk, os⟩ := s
  have k : ∀ b o, h.get? b = some o → hh.get? b = some o := k₀
  have LT0 : W.Looks M h (isInstance (.ref tp) (.type "tuple")) true := ((W.Looks.ld hp).andThen .now).andThen (W.Looks.of_pure isSubtype_tuple_tuple)
  obtain ⟨k1, k2⟩ := exmAny_mem hx
  have hp' := k _ _ hp
  subst k2
  unfold excMatches
  refine wpAny_bind ((LT0.keeps k).at ?_)
  dsimp only
  rw [if_pos rfl]
  first
    | refine wpAny_bind (wpAny_seqItems hp' rfl ?_)
    | refine wpAny_bind (wpAny_bind (wpAny_seqItems hp' rfl (wpAny_pure ?_)))
  dsimp only [Option.getD_some, Option.getD]
  refine wpAny_bind (wpAny_pure ?_)
  refine wpAny_bind (forIn_pass _ _ (fun c hc Q q => ?_) ?_)
  · obtain ⟨e1, _⟩ := W.exm_cls (M := M) X (k1 c hc)
    refine wpAny_bind ((e1.keeps k).at ?_)
    rw [if_neg (show ¬ ((!true) = true) from by decide)]
    exact wpAny_pure q
  · refine wpAny_bind ((LT.keeps k).at ?_)
    refine wpAny_bind (forIn_hit (hit := hitC K cls) (r1 := (some true, ⟨⟩)) _ _ (fun c hc Q q => ?_) ?_)
    · obtain ⟨_, S1⟩ := W.exm_cls (M := M) X (k1 c hc)
      refine wpAny_bind ((S1.keeps k).at ?_)
      cases eh : hitC K cls c with
      | true =>
        rw [eh] at q
        exact wpAny_pure q
      | false =>
        rw [eh] at q
        exact wpAny_pure q
    · cases eh : cs.any (hitC K cls) with
      | true =>
        rw [eh] at q
        exact wpAny_pure q
      | false =>
        rw [eh] at q
        exact wpAny_pure q

/-! ### the names of a clause -/
abbrev Nm := Str × Pos × Value
def namesE (xs : List Nm) : List Expr := xs.map fun p => .Name p.1 p.2.1
theorem names_run {X : Cx} {E : Value → Shared → Prop} {pins : List (Addr × Obj)} {s : Shared} {σ : L2.St} {H : Hp} {pos : Pos} (I : Inv X pins σ H s) : ∀ (xs : List Nm) (Q : List Value → Shared → Prop), (∀ p ∈ xs, Names X p.1 p.2.2) → Q (xs.map (·.2.2)) s →
    wpAny (model X.prog X.w) X.A (spliced (backTo pos (starEach (namesE xs) X.env))) Q E s
  | [], Q, _, q => Calls.spliced_nil q
  | p :: xs, Q, h, q => by
    show wpAny _ _ (spliced ((false, eval (.Name p.1 p.2.1) X.env) :: backTo pos (starEach (namesE xs) X.env))) _ _ s
    have go : wpAny (model X.prog X.w) X.A (spliced (backTo pos (starEach (namesE xs) X.env))) (fun vs s₂ => Q (p.2.2 :: vs) s₂) E s := names_run I xs _ (fun p' hp => h p' (List.mem_cons_of_mem _ hp)) q
    obtain ⟨hg, hd, hm | ⟨hm, hv, hn⟩⟩ := h p List.mem_cons_self
    · exact Calls.spliced_cons (ld_glob I hg hm go hd)
    · exact Calls.spliced_cons (ld_blt I hg hm hv go hn hd)
theorem flyZ_push {B h : Heap} {l : List PySem.Env} {e : Addr} {Z : Obj → Prop} (o : Obj) (x : HandSPX.FlyingZ B l e Z h) : HandSPX.FlyingZ B l e Z (h.push o) := by
  obtain ⟨h1, h2, h3, oe, vs, T, oT, ts, k1, k2, k3, k4, k5, k6, k7, k8, k9⟩ := x
  exact ⟨fun b u e => Heap.get?_push_of_some _ (h1 b u e), h2, h3.of_keeps fun b u e _ => ⟨u, Heap.get?_push_of_some _ e, rfl⟩, oe, vs, T, oT, ts, Heap.get?_push_of_some _ k1, k2, k3, k4, k5, k6, Heap.get?_push_of_some _ k7, k8, k9⟩
theorem errO_ok {P : Program} {w : World} {H : Hp} {h : Heap} {a : Addr} {cls : Value} {dd : Option Addr} {oe : Obj} {vs : Array Value} (e : h.get? a = some oe) (z : Zc cls dd oe) (d : oe.data = .fields vs) : ObjOk P w H h a (ErrO cls dd a) :=
  ⟨⟨oe, vs, e, z, d⟩, ⟨oe, e⟩, fun _ _ ⟨o, v, q, r⟩ k => ⟨o, v, k o q, r⟩⟩
/-- what the clause wishes of an error of the body -/
def wKeepE (K : PySem.W.Frag) (cs : List Value) (i i2 : Nat) (D : Ends) : WX := fun cls d σ H =>
  PySem.W.exmAny K cls cs = some true ∧ ∀ a, H a = none → D.nx (((σ.set i (some (.ref a))).set i2 (some (.ref a))).set i none) (upd H a (ErrO cls d a))
section
variable {X : Cx} {n cn : Str} {xs : List Nm} {i i2 : Nat} {body : List Stmt} {kx : Nat} {tp p1 p2 p3 pos pos' : Pos} {tb : WX → TS}
theorem ps_try_keep (hs : X.stack = X.env :: X.outer) (hf : X.env.frame = some X.env.locals) (hN : X.N.Nodup) (hi : X.N[i]? = some n) (hln : X.env.kindOf n = some .local) (hi2 : X.N[i2]? = some cn) (hl2 : X.env.kindOf cn = some .local) (hz : xs.length ≤ sizeLine) (hc : ∀ p ∈ xs, Names X p.1 p.2.2)
    (hdn : (n == ("__debug__" : Str)) = false) (hcn : (n == ("__classdict__" : Str)) = false)
    (hb : ∀ (W : WX) (pn : List (Addr × Obj)) (xe : Value → Shared → Prop), Takes (X.tr pn xe) W → PassesOwn (model X.prog X.w) X.A X.env xe → PSs (X.tr pn xe) body (tb W)) :
    PS X (.Try body [.ExceptHandler (some (.Tuple (namesE xs) kx tp)) (some n) [.Assign [.Name cn p1] (.Name n p2) p3] pos'] [] [] pos) (fun D σ H => tb (wKeepE X.K (xs.map (·.2.2)) i i2 D) D σ H) := by
  refine ⟨fun pins s σ H D I h => ?_⟩
  have ok := I.ok
  have hfr : X.A.frames = some (X.env :: X.outer) := by rw [ok.frames, hs]
  have hloc : Loc X.env.scope n := .inl hln
  refine wpAny_Try_except ?_
  refine wpAny_mono ((hb (wKeepE X.K (xs.map (·.2.2)) i i2 D) (X.pn ++ pins) (fun e s₁ => wpAny (model X.prog X.w) X.A (noteFrame e X.env) (fun _ s₂ => wpAny (model X.prog X.w) X.A (setFlight e none) (fun _ s₃ =>
    wpAny (model X.prog X.w) X.A (handleBy e X.env [.ExceptHandler (some (.Tuple (namesE xs) kx tp)) (some n) [.Assign [.Name cn p1] (.Name n p2) p3] pos']) (SP X pins D) X.xe s₃) X.xe s₂) X.xe s₁) (fun u s' xx => ?_) PassesOwn.looking).run [] s σ H D (I.toTry _) h) (fun f s1 hsp => ?_) (fun e s1 he => he)
  · obtain ⟨a, B, sI, pins', σ', H', cls, d, rfl, J', nb, up, sky, na, os, ag, hb1, hyes⟩ := xx
    have J : Inv X pins σ' H' sI := J'.ofTry ok
    have sky' : Sky B (X.env :: X.outer) a (Zc cls d) X.env.locals s'.heap := by rw [← hs]; exact sky
    show wpAny (model X.prog X.w) X.A (noteFrame (.ref a) X.env) _ _ _
    refine Sky.land Zc.steady hfr hf sky' fun h3 fl3 up3 => ?_
    have J3 : Inv X pins σ' H' { s' with heap := h3 } := J.landed nb fl3.1 (up.trans up3) os ag
    obtain ⟨oe3, vs3, he3, hz3, hd3⟩ := fl3.there
    have nfr : a ∉ frs (X.env :: X.outer) := fun hm => by
      obtain ⟨_, o', e', hnf⟩ := fl3.2.2.1.mem hm
      rw [he3] at e'; cases e'
      exact hnf _ hd3
    have nL : a ≠ X.env.locals := fun z => nfr (List.mem_filterMap.mpr ⟨X.env, List.mem_cons_self, by rw [hf, z]⟩)
    have nF : a ∉ X.fs := fun hm => by
      obtain ⟨e, he, q⟩ := List.mem_filterMap.mp hm
      exact nfr (List.mem_filterMap.mpr ⟨e, List.mem_cons_of_mem _ he, q⟩)
    have S3 := J3.suite he3 hd3 na nL nF
    refine wpAny_handleBy_cons (codeAny_handlers_test ?_) (by intro q; cases q)
    refine wpAny_Tuple_spliced (names_run (X := X.suite a ((a, oe3) :: (X.pn ++ pins))) S3 xs _ (fun p hp => hc p hp) ⟨by rw [List.length_map]; exact hz, ?_⟩)
    have flP := flyZ_push { cls := .type "tuple", data := .seq (xs.map (·.2.2)).toArray } fl3
    have upP : s'.heap.UpToSlots (h3.push { cls := .type "tuple", data := .seq (xs.map (·.2.2)).toArray }) := up3.trans (Heap.UpToSlots.of_keeps fun b o e => Heap.get?_push_of_some _ e)
    have heP : (h3.push { cls := .type "tuple", data := .seq (xs.map (·.2.2)).toArray }).get? a = some oe3 := Heap.get?_push_of_some _ he3
    have LT : PySem.W.Looks (model X.prog X.w) (h3.push { cls := .type "tuple", data := .seq (xs.map (·.2.2)).toArray }) (typeOf (.ref a)) cls := fun A Q E s k q => wpAny_typeOf_ref (k _ _ heP) (by rw [hz3.1]; exact q)
    have KP : X.K.In (h3.push { cls := .type "tuple", data := .seq (xs.map (·.2.2)).toArray }) := fun b o e => Heap.get?_push_of_some _ (J3.kIn b o e)
    have LM := exm_tupN (M := model X.prog X.w) KP LT (Heap.get?_push_size _ rfl) hb1
    refine LM.here ?_
    refine codeAny_handlers_suite_as ?_
    refine HandSPX.lands_againZ flP fun h4 fl4 up4 => ?_
    obtain ⟨oe4, vs4, he4, hz4, hd4⟩ := fl4.there
    -- the error is told from now on
    obtain ⟨G4, g1, g2⟩ := restrict h4 fun b => decide (b ≠ a)
    have gk : ∀ b, b ≠ a → G4.get? b = h4.get? b := fun b hb => g1 b (decide_eq_true hb)
    have ga : G4.get? a = none := g2 a (decide_eq_false fun z => z rfl)
    have gs : ∀ b o, G4.get? b = some o → h4.get? b = some o := fun b o e => by
      rcases Classical.em (b = a) with hb | hb
      · rw [hb, ga] at e; cases e
      · rw [← gk b hb]; exact e
    have nB : ∀ b o, B.get? b = some o → b ≠ a := fun b o e z => by rw [z, fl4.2.1] at e; cases e
    have nI : ∀ b o, sI.heap.get? b = some o → b ≠ a := fun b o e z => by
      have q := nb b o e (by rw [z, hs]; exact nfr)
      exact nB b o q z
    have upG : sI.heap.UpToSlots G4 := fun b o e hd => by
      obtain ⟨sl, q⟩ := (up.trans (upP.trans up4)) b o e hd
      exact ⟨sl, by rw [gk b (nI b o e)]; exact q⟩
    have JG : Inv X pins σ' H' { s' with heap := G4 } := J.landed nb (fun b o e => by rw [gk b (nB b o e)]; exact fl4.1 b o e) upG os ag
    have J4 : Inv X pins σ' (upd H' a (ErrO cls d a)) { s' with heap := h4 } := JG.laidN (t' := s'.toks) gs ga na (errO_ok he4 hz4 hd4)
    have S4 : Inv (X.suite a (X.pn ++ pins)) [] σ' (upd H' a (ErrO cls d a)) { s' with heap := h4 } :=
      ⟨J4.ok.suite _ _, J4.os, J4.bare, J4.base, J4.loc, J4.cell, J4.free, J4.freeC, fun p hp => J4.pin p (by rw [List.append_nil] at hp; exact hp), J4.hok, J4.len⟩
    have un : ∀ {σ6 : L2.St} {H6 : Hp} {s6 : Shared}, Inv (X.suite a (X.pn ++ pins)) [] σ6 H6 s6 → Inv X pins σ6 H6 s6 := fun {σ6 H6 s6} S => ⟨ok, S.os, S.bare, S.base, S.loc, S.cell, S.free, S.freeC, fun p hp => S.pin p (by rw [List.append_nil]; exact hp), S.hok, S.len⟩
    refine store_ok (X := X.suite a (X.pn ++ pins)) (v := .ref a) S4 hN hi hloc rfl (fun s5 S5 => ?_) (.inr hln)
    have hiσ : i < σ'.length := by rw [J4.len]; exact (List.getElem?_eq_some_iff.mp hi).1
    have suite : PSs (X.suite a (X.pn ++ pins)) [.Assign [.Name cn p1] (.Name n p2) p3] _ := pss_one (ps_set (i := i2) hN hi2 (.inl hl2) (pe_var (i := i) hi (.inl hln) hdn hcn) (hf := .inr hl2))
    refine wpAny_mono (suite.run [] s5 _ _ { nx := fun σ6 H6 => σ6 = (σ'.set i (some (.ref a))).set i2 (some (.ref a)) ∧ H6 = upd H' a (ErrO cls d a), rt := fun _ _ => False, bk := fun _ _ => False, ct := fun _ _ => False } S5 ⟨.ref a, by rw [List.getElem?_set_self hiσ], rfl, rfl⟩) (fun f s6 hsp => ?_) (fun _ _ z => False.elim z)
    cases f with
    | next =>
      obtain ⟨σ6, H6, S6, rfl, rfl⟩ := hsp
      exact gone_ok (un S6) hN hi hln fun s7 J7 => ⟨_, _, J7, hyes a na⟩
    | brk =>
      obtain ⟨σ6, H6, S6, q6⟩ := hsp
      exact q6.elim
    | cont =>
      obtain ⟨σ6, H6, S6, q6⟩ := hsp
      exact q6.elim
    | ret u =>
      obtain ⟨v6, σ6, H6, S6, r6, q6⟩ := hsp
      exact q6.elim
  · cases f with
    | next =>
      obtain ⟨σ', H', J', q⟩ := hsp
      exact wpAny_execs_nil ⟨σ', H', J'.ofTry ok, q⟩
    | brk =>
      obtain ⟨σ', H', J', q⟩ := hsp
      exact ⟨σ', H', J'.ofTry ok, q⟩
    | cont =>
      obtain ⟨σ', H', J', q⟩ := hsp
      exact ⟨σ', H', J'.ofTry ok, q⟩
    | ret u =>
      obtain ⟨v, σ', H', J', r, q⟩ := hsp
      exact ⟨v, σ', H', J'.ofTry ok, r, q⟩
end
end PL

/-! The layer: raise, try that keeps its error, isinstance of an error that was kept, its field. -/
namespace PL
open PySem PySem.Spec PyProof.Rows L2
/-! ### classes of errors -/
/-- the names of the errors with the names of their classes -/
abbrev ETab := List (Str × List Str)
def isS (t : ETab) (y c : Str) : Bool := ((t.lookup y).getD []).contains c
def kn (t : ETab) (y : Str) : Bool := (t.lookup y).isSome
structure ErrI (K : PySem.W.Frag) (mg : Str → Option Value) (t : ETab) (cs : List (Str × Value)) : Prop where
  ex : ∀ y A, mg y = some (.ref A) → kn t y = true → ExcC K A
  is : ∀ y A, mg y = some (.ref A) → kn t y = true → ∀ p ∈ cs, PySem.W.kitOne K (.ref A) p.2 = some (isS t y p.1) ∧ PySem.W.exmOne K (.ref A) p.2 = some (isS t y p.1)
def excCB (K : PySem.W.Frag) (D : Addr) : Bool := (PySem.W.findIn K (.ref D) "__getattribute__" == some (some (.builtin "BaseException.__getattribute__"))) && (PySem.W.findIn K (.ref D) "__getattr__" == some none) && (PySem.W.subIn K (.ref D) (.type "BaseException") == some true) && PySem.W.hasDictIn K D &&
  (PySem.W.findIn K (.ref D) "__class__" == some (some (.builtin "object.__class__"))) && (PySem.W.specialIn K (.builtin "object.__class__") "__get__" == some (some (.builtin "getset_descriptor.__get__"))) && (PySem.W.takesIn K (.builtin "object.__class__") == some true) && (PySem.W.mroIn K D (.type "object") == some true)
theorem excCB_ok {K : PySem.W.Frag} {D : Addr} (h : excCB K D = true) : ExcC K D := by
  unfold excCB at h
  simp only [Bool.and_eq_true, beq_iff_eq] at h
  obtain ⟨⟨⟨⟨⟨⟨⟨h1, h2⟩, h3⟩, h4⟩, h5⟩, h6⟩, h7⟩, h8⟩ := h
  exact ⟨h1, h2, h3, h4, h5, h6, h7, h8⟩
def errChk (K : PySem.W.Frag) (t : ETab) (as : List (Str × Addr)) (cs : List (Str × Value)) : Bool :=
  as.all fun a => excCB K a.2 && cs.all fun p => (PySem.W.kitOne K (.ref a.2) p.2 == some (isS t a.1 p.1)) && (PySem.W.exmOne K (.ref a.2) p.2 == some (isS t a.1 p.1))
theorem errI_of {K : PySem.W.Frag} {mg : Str → Option Value} {t : ETab} {as : List (Str × Addr)} {cs : List (Str × Value)} (hm : ∀ a ∈ as, mg a.1 = some (.ref a.2)) (hk : t.all (fun p => as.any fun a => a.1 == p.1) = true) (h : errChk K t as cs = true) : ErrI K mg t cs := by
  have key : ∀ y A, mg y = some (.ref A) → kn t y = true → (y, A) ∈ as := fun y A e k => by
    unfold kn at k
    obtain ⟨l, hl⟩ := Option.isSome_iff_exists.mp k
    have hy : (y, l) ∈ t := PySem.mem_of_lookup hl
    obtain ⟨a, ha, he⟩ := List.any_eq_true.mp (List.all_eq_true.mp hk _ hy)
    have e2 : a.1 = y := eq_of_beq he
    have e3 := hm a ha
    rw [e2, e] at e3
    have e4 : A = a.2 := by cases e3; rfl
    rw [← e2, e4]
    exact ha
  have all := List.all_eq_true.mp h
  refine ⟨fun y A e k => ?_, fun y A e k p hp => ?_⟩
  · have q := all _ (key y A e k)
    rw [Bool.and_eq_true] at q
    exact excCB_ok q.1
  · have q := all _ (key y A e k)
    rw [Bool.and_eq_true] at q
    have q2 := List.all_eq_true.mp q.2 p hp
    rw [Bool.and_eq_true, beq_iff_eq, beq_iff_eq] at q2
    exact q2
theorem exmAny_of {K : PySem.W.Frag} {cls : Value} {f : Str → Bool} : ∀ (cs : List (Str × Value)), (∀ p ∈ cs, PySem.W.exmOne K cls p.2 = some (f p.1)) → PySem.W.exmAny K cls (cs.map (·.2)) = some ((cs.map (·.1)).any f)
  | [], _ => rfl
  | p :: cs, h => by
    have h1 := h p List.mem_cons_self
    have h2 := exmAny_of cs fun q hq => h q (List.mem_cons_of_mem _ hq)
    show PySem.W.exmAny K cls (p.2 :: cs.map (·.2)) = some (f p.1 || (cs.map (·.1)).any f)
    unfold PySem.W.exmAny
    rw [h1, h2]
theorem kitAny_of {K : PySem.W.Frag} {cls : Value} {f : Str → Bool} : ∀ (cs : List (Str × Value)), (∀ p ∈ cs, PySem.W.kitOne K cls p.2 = some (f p.1)) → PySem.W.kitAny K cls (cs.map (·.2)) = some ((cs.map (·.1)).any f)
  | [], _ => rfl
  | p :: cs, h => by
    have h1 := h p List.mem_cons_self
    have h2 := kitAny_of cs fun q hq => h q (List.mem_cons_of_mem _ hq)
    show PySem.W.kitAny K cls (p.2 :: cs.map (·.2)) = some (f p.1 || (cs.map (·.1)).any f)
    unfold PySem.W.kitAny
    rw [h1, h2]
    cases f p.1 <;> rfl

/-! ### names take anything that is not one's own -/
section
variable {G : PenK} {K : PySem.W.Frag} {c : C} {σ : L2.St} {ρ : Env} {H : Hp} {n : Nt}
theorem SI.setS {i : Nat} {sv : SV} {o : Option V} (I : SI G K c σ H ρ n) (ho : sv.isOwn = false) (r : SlotOk G K c H sv o) : SI G K c (σ.set i o) H (ρ.set i sv) n := by
  have key : ∀ j s, (ρ.set i sv)[j]? = some s → (j = i ∧ s = sv ∧ slot (σ.set i o) j = o) ∨ (i ≠ j ∧ ρ[j]? = some s ∧ slot (σ.set i o) j = slot σ j) := fun j s e => by
    rcases Classical.em (i = j) with h | h
    · subst h
      have hl : i < ρ.length := by
        have := (List.getElem?_eq_some_iff.mp e).1
        rwa [List.length_set] at this
      rw [List.getElem?_set_self hl] at e
      exact .inl ⟨rfl, (Option.some.inj e).symm, slot_set_same (I.len ▸ hl)⟩
    · rw [List.getElem?_set_ne h] at e
      exact .inr ⟨h, e, slot_set_ne h⟩
  refine ⟨by rw [List.length_set, List.length_set, I.len], fun j s e => ?_, fun j s a e hs es => ?_, fun j k s s' a hn e e' hs hs' es es' => ?_, I.dom, I.fr, I.pen, I.no, I.tab, I.mu, I.mu0, I.mz⟩
  · rcases key j s e with ⟨_, rfl, h⟩ | ⟨_, h, h2⟩
    · rw [h]; exact r
    · rw [h2]; exact I.slots j s h
  · rcases key j s e with ⟨_, rfl, h⟩ | ⟨_, h, h2⟩
    · rw [ho] at hs; cases hs
    · exact I.own j s a h hs (h2 ▸ es)
  · rcases key j s e with ⟨_, rfl, h⟩ | ⟨_, h, h2⟩
    · rw [ho] at hs; cases hs
    · rcases key k s' e' with ⟨_, rfl, h'⟩ | ⟨_, h', h2'⟩
      · rw [ho] at hs'; cases hs'
      · exact I.apart j k s s' a hn h h' hs hs' (h2 ▸ es) (h2' ▸ es')
end

section
variable {G : PenK} {X : Cx} {Wx : WX} {γ : Type} {En : Enz γ} {ρ : Env} {rest : List Stmt} {m : W γ}
/-! ### raise -/
/-- an error's class with one field, over some built-in class -/
def ErrK (K : PySem.W.Frag) (mg : Str → Option Value) (x f : Str) : Prop :=
  ∃ (B newId initId : String) (bmB : List Value) (C fI : Addr) (fd : FuncData) (q : Str) (st : Stmt) (sn vn : Str), StoreFacts B bmB "object.__setattr__" "object" ∧ ExcBaseFacts B newId initId bmB ∧ IniK K C fI fd bmB newId q st sn vn f ∧ mg x = some (.ref C)
theorem sg_raise1 {x f : Str} {e : Expr} {p q pos : Pos} {g : Env → W D} {m0 : W D} (k : ErrK X.K X.mg x f) (hc : X.calm = true) (hr : Room 2 X.A) (tk : Takes X Wx) (h : E G X Wx e g) (hg : g (bor ρ) = m0) (hx : Gl X x)
    (hdb : (x == ("__debug__" : Str)) = false := by decide) (he : starEach [e] X.env = (false, eval e X.env) :: starEach [] X.env := by rfl) (hpl : (backTo q (starEach [] X.env)).any (·.1) = false := by rfl) :
    SG G X Wx (.Raise (some (.Call (.Name x p) [e] [] q)) none pos :: rest) ρ En (bnd m0 fun d => rse (x, [(f, d)])) := by
  obtain ⟨B, newId, initId, bmB, C, fI, fd, qn, st, sn, vn, SF, FB, N, hm⟩ := k
  refine weakSs (pss_cons (ps_raise hc tk (pmk_one SF FB N hr hx hm h hdb he hpl)) pss_no) fun Dn σ H ⟨c, n, P, PX, I, q, hgl, hxx⟩ => ?_
  obtain ⟨I2, g2⟩ := I.lend
  subst hg
  refine tE.bnd (f := fun d => (rse (x, [(f, d)]) : W γ)) I2 q (hxx.grow g2).x fun d k v S' H' p g I' hx' r dd hdd => ?_
  obtain ⟨I3, g3⟩ := I'.laid (o := .xd [(f, v)]) hdd
  exact hx' (x, [(f, d)]) k _ _ _ _ p g3 I3 ⟨C, hm, rfl, .inr ⟨dd, _, rfl, .inr rfl, upd_same, .cons ⟨rfl, Rep.grow g3 _ _ r⟩ .nil⟩⟩
/-! ### try -/
def tryW {α γ : Type} (m : W α) (k : α → W γ) (h : Exc → W γ) : W γ := fun n P PX => m n (fun a j => k a j P PX) fun x j => h x j P PX
abbrev namesS (xs : List Nm) : List Str := xs.map fun p => p.1
/-- caught by a clause with these classes -/
def cat (t : ETab) (ys : List Str) (x : Exc) : Bool := kn t x.1 && ys.any (isS t x.1)
theorem onB_inv {α : Type} {b : Bool} {m : W α} {k : Nt} {P : α → Nt → Prop} {PX : Exc → Nt → Prop} (h : onB b m k P PX) : b = true ∧ m k P PX := by
  cases b with
  | true => exact ⟨rfl, h⟩
  | false => exact h.elim
end
end PL

/-! The layer: isinstance of an error that was kept, its field. -/
namespace PL
open PySem PySem.Spec PyProof.Rows L2
/-! ### isinstance -/
def XAt (H : Hp) (a D : Addr) : Prop := ∃ dd : Option Addr, H a = some (ErrO (.ref D) dd a) ∧ (dd = none ∨ ∃ d fv, dd = some d ∧ H d = some (.xd fv))
theorem xAt_inst {P : Program} {w : World} {H : Hp} {h : Heap} {a D : Addr} (hok : HOk P w H h) (x : XAt H a D) : ∃ ox od, PySem.W.InstAt h a ox D od := by
  obtain ⟨dd, e, hd⟩ := x
  have q : ObjOk P w H h a (.ext fun h => ∃ (oe : Obj) (vs : Array Value), h.get? a = some oe ∧ Zc (.ref D) dd oe ∧ oe.data = .fields vs) := hok a _ e
  obtain ⟨⟨oe, vs, ho, hz, hv⟩, _⟩ := q
  obtain ⟨z1, z2⟩ := id hz
  rcases hd with rfl | ⟨d, fv, rfl, h2⟩
  · exact ⟨oe, none, ⟨ho, z1, by unfold PySem.W.notCls; rw [hv] <;> rfl, by rw [z2]; trivial⟩⟩
  · have hx : ObjOk P w H h d (.xd fv) := hok d _ h2
    obtain ⟨mA, hns, hr⟩ := hx
    obtain ⟨od, ho2, hl⟩ := lookIn_ns hns
    exact ⟨oe, some od, ⟨ho, z1, by unfold PySem.W.notCls; rw [hv] <;> rfl, by rw [z2]; exact ho2⟩⟩
theorem kitx_X {K : PySem.W.Frag} {a D : Addr} {ox : Obj} {od : Option Obj} (C : ExcC K D) : PySem.W.KitX K (.ref a) (.ref D) (fun h => PySem.W.InstAt h a ox D od) :=
  PySem.W.kitx_exc (gt := none) (by obtain ⟨cd, hc, _⟩ := PySem.W.any_some C.hd; rw [hc]; rfl) C.hg C.hk C.hs C.ha C.hn C.ht C.hm
def rIsX (K : PySem.W.Frag) : List V → Hp → VK → Prop := fun xs H Q => ∃ (a D : Addr) (c : V) (cv : Value) (b : Bool), xs = [.ref a, c] ∧ XAt H a D ∧ ExcC K D ∧ ClsV c cv ∧ PySem.W.kitOne K (.ref D) cv = some b ∧ Q (.bl b) H
theorem call_isX {X : Cx} : CallR X (.builtin "isinstance") (rIsX X.K) := by
  intro pins s σ H xs us Q I r h
  obtain ⟨a, D, c, cv, b, rfl, x, C, k, e, q⟩ := h
  obtain ⟨u1, u2, rfl, r1, r2⟩ := vals2 r
  have e2 := k.eq r2
  subst e2
  cases (show u1 = Value.ref a from r1)
  obtain ⟨ox, od, J⟩ := xAt_inst I.hok x
  exact PySem.W.kia_one (kitx_X C) I.kIn J e (fun z => nomatch z) fun tk => ⟨.bl b, H, I.tok tk, rfl, q⟩
def rIsXT (K : PySem.W.Frag) : List V → Hp → VK → Prop := fun xs H Q => ∃ (a D tp : Addr) (cs : List V) (ws : List Value) (b : Bool), xs = [.ref a, .ref tp] ∧ XAt H a D ∧ ExcC K D ∧ H tp = some (.tup cs) ∧ Paired ClsV cs ws ∧ PySem.W.kitAny K (.ref D) ws = some b ∧ Q (.bl b) H
theorem call_isXT {X : Cx} : CallR X (.builtin "isinstance") (rIsXT X.K) := by
  intro pins s σ H xs us Q I r h
  obtain ⟨a, D, tp, cs, ws, b, rfl, x, C, hT, k, e, q⟩ := h
  obtain ⟨u1, u2, rfl, r1, r2⟩ := vals2 r
  cases (show u1 = Value.ref a from r1)
  cases (show u2 = Value.ref tp from r2)
  obtain ⟨ox, od, J⟩ := xAt_inst I.hok x
  obtain ⟨_, its, rv, o, h1, h2, n, h3⟩ := (show ObjOk X.prog X.w H s.heap tp (.tup cs) from I.hok tp _ hT)
  have e3 := ClsV.all k rv
  subst e3
  obtain ⟨oc, od', dt, sl⟩ := o
  simp only at h2 h3
  subst h2 h3
  exact PySem.W.kia_tup (kitx_X C) I.kIn J h1 e (fun z => nomatch z) fun tk => ⟨.bl b, H, I.tok tk, rfl, q⟩
/-- a class by its value -/
def cV : Value → V
  | .ref C => .ref C
  | .type T => .ty T
  | _ => .non
def isCl : Value → Bool
  | .ref _ => true
  | .type _ => true
  | _ => false
theorem cV_cls {c : Value} (h : isCl c = true) : ClsV (cV c) c := by
  cases c with
  | ref C => exact .own C
  | type T => exact .ty T
  | _ => cases h
section
variable {G : PenK} {X : Cx} {Wx : WX} {γ : Type} {En : Enz γ} {ρ : Env} {rest : List Stmt} {m : W γ}
theorem pe_cls {x : Str} {c : Value} {p : Pos} (h : Names X x c) (hc : isCl c = true) : PE X (.Name x p) (tC (cV c)) := by
  have r : RelV (cV c) c := by
    cases c with
    | ref C => rfl
    | type T => rfl
    | _ => cases hc
  obtain ⟨hg, hd, hm | ⟨hm, hv, hn⟩⟩ := h
  · exact pe_glob hg hm r hd
  · exact pe_bltn hg hm hv r hn hd
theorem pa_cls : ∀ (xs : List Nm), (∀ p ∈ xs, Names X p.1 p.2.2 ∧ isCl p.2.2 = true) → PA X (namesE xs) (fun _ H Q => Q (xs.map fun p => cV p.2.2) H)
  | [], _ => pa_nil
  | p :: xs, h => weakA (pa_cons (pe_cls (h p List.mem_cons_self).1 (h p List.mem_cons_self).2) (pa_cls xs fun q hq => h q (List.mem_cons_of_mem _ hq)) (by rfl)) fun σ H Q q => q
theorem clsV_all : ∀ (xs : List Nm), (∀ p ∈ xs, isCl p.2.2 = true) → Paired ClsV (xs.map fun p => cV p.2.2) (xs.map fun p => p.2.2)
  | [], _ => .nil
  | p :: xs, h => .cons (cV_cls (h p List.mem_cons_self)) (clsV_all xs fun q hq => h q (List.mem_cons_of_mem _ hq))
/-- the error that a name holds -/
def excAt {α : Type} (ρ : Env) (i : Nat) (f : Exc → W α) : W α := match svAt ρ i with
  | .exc x => f x
  | _ => stuck
theorem excAt_inv {α : Type} {ρ : Env} {i : Nat} {n : Nt} {f : Exc → W α} {P : α → Nt → Prop} {PX : Exc → Nt → Prop} (h : excAt ρ i f n P PX) : ∃ x, ρ[i]? = some (.exc x) ∧ f x n P PX := by
  unfold excAt svAt at h
  cases e : ρ[i]? with
  | none => rw [e] at h; exact h.elim
  | some sv =>
    rw [e] at h
    cases sv with
    | exc x => exact ⟨x, rfl, h⟩
    | _ => exact h.elim
theorem SI.exc {K : PySem.W.Frag} {c : C} {σ : L2.St} {H : Hp} {n : Nt} {i : Nat} {x : Exc} (I : SI G K c σ H ρ n) (e : ρ[i]? = some (.exc x)) : ∃ a D dd, slot σ i = some (.ref a) ∧ XAt H a D ∧ G.mg x.1 = some (.ref D) ∧ H a = some (ErrO (.ref D) dd a) ∧ RepX K G.mg c.S H x (.ref D) dd := by
  obtain ⟨a, cls, dd, e1, hs, ha, r⟩ := I.slots i _ e
  obtain ⟨D, h1, h2, h3⟩ := id r
  subst h2
  exact ⟨a, D, dd, e1, ⟨dd, ha, h3.elim (fun z => .inl z.2) fun ⟨d, fv, e, _, hd, _⟩ => .inr ⟨d, fv, e, hd⟩⟩, h1, ha, r⟩
def isW (t : ETab) (y : Str) (e : Exc) : W D := onB (kn t e.1) (ret (.bl (isS t e.1 y)))
def isTW (t : ETab) (ys : List Str) (e : Exc) : W D := onB (kn t e.1) (ret (.bl (ys.any (isS t e.1))))
def fldW (ys : List Str) (f : Str) (e : Exc) : W D := onB (ys.contains e.1) (match e.2.lookup f with | some d => ret d | none => stuck)
/-- isinstance(x, C), x an error that was kept -/
theorem e_isX {x y : Str} {cv : Value} {t : ETab} {cs : List (Str × Value)} {p px py pos : Pos} (T : ErrI X.K X.mg t cs) (hG : G.mg = X.mg) (i : Nat) (hc : Names X y cv) (hcl : isCl cv = true) (hin : (y, cv) ∈ cs) (hm : X.mg "isinstance" = none)
    (hN : X.N[i]? = some x := by rfl) (hv : Vis X.env.scope x := by first | exact Or.inl rfl | exact Or.inr (Or.inl rfl) | exact Or.inr (Or.inr rfl)) (hd : (x == ("__debug__" : Str)) = false := by decide)
    (hcd : (x == ("__classdict__" : Str)) = false := by decide) (hg : Gl X "isinstance" := by rfl) (he : starEach [.Name x px, .Name y py] X.env = (false, eval (.Name x px) X.env) :: starEach [.Name y py] X.env := by rfl)
    (he2 : starEach [.Name y py] X.env = (false, eval (.Name y py) X.env) :: starEach [] X.env := by rfl) (hpl : (backTo pos (starEach [.Name y py] X.env)).any (·.1) = false := by rfl) :
    E G X Wx (.Call (.Name "isinstance" p) [.Name x px, .Name y py] [] pos) (fun ρ => excAt ρ i (isW t y)) :=
  weakE (pe_callB call_isX hg hm PyProof.Rows.boot_isinstance (two_a (pe_var hN hv hd hcd) (pe_cls hc hcl) he he2) (by decide) (by decide) he hpl) fun σ H Q ⟨c, ρ, n, P, PX, I, q, hg, hx⟩ => by
    obtain ⟨e, e1, q⟩ := excAt_inv (show excAt ρ i _ n P PX from q)
    obtain ⟨hk, q⟩ := onB_inv (show onB _ _ n P PX from q)
    obtain ⟨a, D, dd, es, xa, hm', _⟩ := I.exc e1
    rw [hG] at hm'
    exact ⟨.ref a, slot_some es, a, D, cV cv, cv, isS t e.1 y, rfl, xa, T.ex e.1 D hm' hk, cV_cls hcl, (T.is e.1 D hm' hk _ hin).1, hg (.bl (isS t e.1 y)) n _ c.S H q .refl I rfl⟩
/-- isinstance(x, (C, D, ..)) -/
theorem e_isXT {x : Str} {xs : List Nm} {t : ETab} {cs : List (Str × Value)} {p px pt pos : Pos} {k0 : Nat} (T : ErrI X.K X.mg t cs) (hG : G.mg = X.mg) (i : Nat) (hc : ∀ p ∈ xs, Names X p.1 p.2.2 ∧ isCl p.2.2 = true) (hin : ∀ p ∈ xs.map (fun p => (p.1, p.2.2)), p ∈ cs) (hz : xs.length ≤ sizeLine) (hm : X.mg "isinstance" = none)
    (hN : X.N[i]? = some x := by rfl) (hv : Vis X.env.scope x := by first | exact Or.inl rfl | exact Or.inr (Or.inl rfl) | exact Or.inr (Or.inr rfl)) (hd : (x == ("__debug__" : Str)) = false := by decide)
    (hcd : (x == ("__classdict__" : Str)) = false := by decide) (hg : Gl X "isinstance" := by rfl) (he : starEach [.Name x px, .Tuple (namesE xs) k0 pt] X.env = (false, eval (.Name x px) X.env) :: starEach [.Tuple (namesE xs) k0 pt] X.env := by rfl)
    (he2 : starEach [.Tuple (namesE xs) k0 pt] X.env = (false, eval (.Tuple (namesE xs) k0 pt) X.env) :: starEach [] X.env := by rfl) (hpl : (backTo pos (starEach [.Tuple (namesE xs) k0 pt] X.env)).any (·.1) = false := by rfl) :
    E G X Wx (.Call (.Name "isinstance" p) [.Name x px, .Tuple (namesE xs) k0 pt] [] pos) (fun ρ => excAt ρ i (isTW t (namesS xs))) :=
  weakE (pe_callB call_isXT hg hm PyProof.Rows.boot_isinstance (two_a (pe_var hN hv hd hcd) (pe_tup (pa_cls xs hc)) he he2) (by decide) (by decide) he hpl) fun σ H Q ⟨c, ρ, n, P, PX, I, q, hg, hx⟩ => by
    obtain ⟨e, e1, q⟩ := excAt_inv (show excAt ρ i _ n P PX from q)
    obtain ⟨hk, q⟩ := onB_inv (show onB _ _ n P PX from q)
    obtain ⟨a, D, dd, es, xa, hm', ha, rx⟩ := I.exc e1
    rw [hG] at hm'
    refine ⟨.ref a, slot_some es, by rw [List.length_map]; exact hz, fun tp htp => ?_⟩
    obtain ⟨I2, g2⟩ := I.laid (o := .tup (xs.map fun p => cV p.2.2)) htp
    obtain ⟨a2, D2, dd2, es2, xa2, hm2, _⟩ := I2.exc e1
    rw [es] at es2
    cases es2
    rw [hG, hm'] at hm2
    cases hm2
    have hka := kitAny_of (f := isS t e.1) (xs.map fun p => (p.1, p.2.2)) fun p hp => (T.is e.1 D hm' hk p (hin p hp)).1
    rw [List.map_map, List.map_map] at hka
    exact ⟨a, D, tp, _, xs.map fun p => p.2.2, (namesS xs).any (isS t e.1), rfl, xa2, T.ex e.1 D hm' hk, upd_same, clsV_all xs fun p hp => (hc p hp).2, hka, hg (.bl _) n _ _ _ q g2 I2 rfl⟩
/-- what is asked of a field's name -/
def FldOk (K : PySem.W.Frag) (mg : Str → Option Value) (ys : List Str) (f : Str) : Prop := ∀ y A, mg y = some (.ref A) → y ∈ ys → XfC K A ∧ PySem.W.findIn K (.ref A) f = some none
/-- x.f, x an error that was kept, of one of the classes ys -/
theorem e_fldX {x f : Str} {ys : List Str} {px pos : Pos} (T : FldOk X.K X.mg ys f) (hG : G.mg = X.mg) (i : Nat)
    (hN : X.N[i]? = some x := by rfl) (hv : Vis X.env.scope x := by first | exact Or.inl rfl | exact Or.inr (Or.inl rfl) | exact Or.inr (Or.inr rfl)) (hd : (x == ("__debug__" : Str)) = false := by decide)
    (hcd : (x == ("__classdict__" : Str)) = false := by decide) (hb : attributeBase (.Name x px) f X.env (eval (.Name x px) X.env) = eval (.Name x px) X.env := by rfl) :
    E G X Wx (.Attribute (.Name x px) f pos) (fun ρ => excAt ρ i (fldW ys f)) := by
  refine ⟨fun pins s σ H Q J ⟨c, ρ, n, P, PX, I, q, hg, hx⟩ => ?_⟩
  obtain ⟨e, e1, q⟩ := excAt_inv (show excAt ρ i _ n P PX from q)
  obtain ⟨hk, q⟩ := onB_inv (show onB _ _ n P PX from q)
  obtain ⟨a, Da, dd, es, xa, hm', ha, A, r1, r2, r3⟩ := I.exc e1
  rw [hG] at hm'
  obtain ⟨Tx, hno⟩ := T e.1 Da hm' (List.contains_iff_mem.mp hk)
  refine attr_of hb (thn ((pe_var (pos := px) (i := i) hN hv hd hcd).run pins s σ H (fun v H1 => v = .ref a ∧ H1 = H) J ⟨.ref a, slot_some es, rfl, rfl⟩) fun u s1 hh => ?_)
  obtain ⟨v, H1, J1, rx, rfl, rfl⟩ := hh
  obtain rfl : u = Value.ref a := rx
  cases el : e.2.lookup f with
  | none => rw [el] at q; exact q.elim
  | some dv =>
    rw [el] at q
    rcases r3 with ⟨z, _⟩ | ⟨d, fv, rfl, hS, hd2, pr⟩
    · rw [z] at el; cases el
    · have key : ∀ {xs : List (Str × D)} {fv : List (Str × V)}, Paired (fun (p : Str × D) (q : Str × V) => p.1 = q.1 ∧ Rep X.K c.S H1 p.2 q.2) xs fv → xs.lookup f = some dv → ∃ w, fv.lookup f = some w ∧ Rep X.K c.S H1 dv w := by
        intro xs fv pr
        induction pr with
        | nil => intro z; cases z
        | @cons p q xs fv h t ih =>
          intro z
          obtain ⟨p1, p2⟩ := p
          obtain ⟨q1, q2⟩ := q
          obtain ⟨h1, h2⟩ := h
          dsimp only at h1 h2
          subst h1
          rw [List.lookup_cons] at z ⊢
          cases eb : f == p1 with
          | true =>
            rw [eb] at z
            cases z
            exact ⟨q2, rfl, h2⟩
          | false =>
            rw [eb] at z
            exact ih z
      obtain ⟨w, lw, rw'⟩ := key pr el
      have q2 : ObjOk X.prog X.w H1 s1.heap a (.ext fun h => ∃ (oe : Obj) (vs : Array Value), h.get? a = some oe ∧ Zc (.ref Da) (some d) oe ∧ oe.data = .fields vs) := J1.hok a _ ha
      obtain ⟨⟨oe, vs, ho, hz, hvs⟩, _⟩ := q2
      have hxd : ObjOk X.prog X.w H1 s1.heap d (.xd fv) := J1.hok d _ hd2
      obtain ⟨mA, hns, hr⟩ := hxd
      obtain ⟨od, ho2, hl⟩ := lookIn_ns hns
      obtain ⟨u, hu, ru⟩ := RelO.some_of (v := w) (o := mA f) (by rw [← lw]; exact hr f)
      have Ji : PySem.W.InstAt s1.heap a oe Da (some od) := ⟨ho, hz.1, by unfold PySem.W.notCls; rw [hvs] <;> rfl, by rw [hz.2]; exact ho2⟩
      exact HandSPX.exc_get J1.kIn Ji Tx.ga Tx.gg Tx.exC (PySem.W.findObj_own Tx.hdC hno rfl (by rw [hl, hu])) (handed_of ru) ⟨w, H1, J1.tok _, ru, hg dv n w c.S H1 q .refl I rw'⟩
end
end PL

/-! The layer: a lambda handed to a def. -/
namespace PL
open PySem PySem.Spec PyProof.Rows L2 LamX
section
variable {G : PenK} {K : PySem.W.Frag} {c : C} {σ : L2.St} {ρ : Env} {H : Hp} {n : Nt}
/-- a code object is made, its table is longer -/
theorem SI.code {P c' : Addr} {q : Str} {ps : Array Value} {pos : Pos} (J : SI G K c σ H ρ n) (hq : (P, q) ∈ G.tab) (hu : ∀ p ∈ G.tab, p.1 = P → p.2 = q) (hP : H P = some (.tbl ps)) (hT : TriplesOk ps.toList) (ho : ∀ (pos : Pos) (cv : Value), codeAmong pos ps.toList = some cv → ∃ c0, cv = .ref c0 ∧ c.S c0 ∧ H c0 = some (CodeO c0 q)) (nC : H c' = none) :
    SI G K (c.to fun a => c.S a ∨ a = c') σ (upd (upd H P (.tbl (ps ++ #[rawInt pos.line, rawInt pos.col, .ref c']))) c' (CodeO c' q)) ρ n ∧ Grow c.S (fun a => c.S a ∨ a = c') H (upd (upd H P (.tbl (ps ++ #[rawInt pos.line, rawInt pos.col, .ref c']))) c' (CodeO c' q)) := by
  have nPc : P ≠ c' := ne_of_none hP nC
  have at_ : ∀ b, b ≠ P → b ≠ c' → upd (upd H P (.tbl (ps ++ #[rawInt pos.line, rawInt pos.col, .ref c']))) c' (CodeO c' q) b = H b := fun b h1 h2 => by rw [upd_ne h2, upd_ne h1]
  have atP : upd (upd H P (.tbl (ps ++ #[rawInt pos.line, rawInt pos.col, .ref c']))) c' (CodeO c' q) P = some (.tbl (ps ++ #[rawInt pos.line, rawInt pos.col, .ref c'])) := by rw [upd_ne nPc, upd_same]
  have tN := J.tabN hq
  have ne : ∀ b, H b ≠ none → b ≠ c' := fun b h z => h (z ▸ nC)
  have eqS : ∀ b, c.S b → upd (upd H P (.tbl (ps ++ #[rawInt pos.line, rawInt pos.col, .ref c']))) c' (CodeO c' q) b = H b := fun b h => at_ b (fun z => tN.1 (z ▸ h)) (ne b (J.dom b h))
  have g : Grow c.S (fun a => c.S a ∨ a = c') H (upd (upd H P (.tbl (ps ++ #[rawInt pos.line, rawInt pos.col, .ref c']))) c' (CodeO c' q)) := ⟨fun _ h => .inl h, eqS⟩
  have ownN : ∀ a, ownS ρ σ a → a ≠ P := fun a ⟨i, sv, e, h, es⟩ z => tN.2.1 (z ▸ (J.own i sv a e h es).2.1)
  have eL : (ps ++ #[rawInt pos.line, rawInt pos.col, .ref c']).toList = ps.toList ++ [rawInt pos.line, rawInt pos.col, .ref c'] := by simp
  refine ⟨⟨J.len, fun i sv e => (J.slots i sv e).grow g fun a ea h => at_ a (ownN a ⟨i, sv, e, h, ea⟩) (ne a (J.own_there ⟨i, sv, e, h, ea⟩)), fun i sv a e h es => ⟨fun z => z.elim (J.own i sv a e h es).1 fun z => ne a (J.own_there ⟨i, sv, e, h, es⟩) z, (J.own i sv a e h es).2⟩, J.apart, fun a h => ?_, fun a o e hn => ?_, fun p e => ?_,
    fun a h => ⟨fun z => z.elim (J.no a h).1 fun z => (J.no a h).2 (z ▸ J.freeOld nC), (J.no a h).2⟩, fun p hp => ⟨(J.tab p hp).1, ?_⟩, fun b nd e => ⟨(J.mu b nd e).1.grow g (at_ b (fun z => (J.mu b nd e).2.2.2 (.inr ⟨_, hq, z⟩)) (ne b (J.mu b nd e).1.there)), fun z => Or.elim z (J.mu b nd e).2.1 (ne b (J.mu b nd e).1.there), (J.mu b nd e).2.2⟩, J.mu0, J.mz⟩, g⟩
  · rcases h with h | h
    · rw [eqS a h]; exact J.dom a h
    · rw [h, upd_same]; exact fun z => nomatch z
  · have q1 := J.fr a o e hn
    rw [at_ a (fun z => hn (.inl (.inr ⟨_, hq, z⟩))) (ne a (by rw [q1]; exact fun z => nomatch z))]
    exact q1
  · obtain ⟨h1, h2, h3, h4, h5⟩ := J.pen p e
    obtain ⟨⟨xs, e1⟩, ys, e2⟩ := G.isL h1
    have nl : ∀ b xs, H b = some (.lst xs) → b ≠ P := fun b xs h z => by rw [z, hP] at h; cases h
    exact ⟨G.dep h1 (at_ _ (nl _ _ e1) (ne_of_none e1 nC)) (at_ _ (nl _ _ e2) (ne_of_none e2 nC)), fun z => z.elim h2 (ne_of_none e1 nC), fun z => z.elim h3 (ne_of_none e2 nC), h4, h5⟩
  · rcases Classical.em (p.1 = P) with hb | hb
    · rw [hu p hp hb, hb]
      refine ⟨_, atP, by rw [eL]; exact PySem.TriplesOk_snoc _ _ _ _ hT, fun p' cv hcv => ?_⟩
      rw [eL] at hcv
      rcases among_app _ hT hcv with z | z
      · obtain ⟨c0, e1, e2, e3⟩ := ho p' cv z
        exact ⟨c0, e1, .inl e2, (eqS c0 e2).trans e3⟩
      · exact ⟨c', z, .inr rfl, upd_same⟩
    · exact (J.tab p hp).2.grow g (at_ _ hb (ne _ (J.tabN hp).2.2))
end
section
variable {G : PenK} {X : Cx} {pins : List (Addr × Obj)} {σ : L2.St} {H : Hp} {s : Shared} {c : C} {ρ : Env} {n : Nt}
/-- the lambda is made -/
theorem lam_make3 {cc P : Addr} {params : Arguments} {body : Expr} {scope : Scope} {pos : Pos} {E : Value → Shared → Prop} {Q : Value → Shared → Prop} (I : Inv X pins σ H s) (J : SI G X.K c σ H ρ n) (TB : TabB X.base X.mg cc P) (hcode : X.env.code = .ref cc)
    (hm : (P, X.env.qual ++ "<lambda>") ∈ G.tab) (hu : ∀ p ∈ G.tab, p.1 = P → p.2 = X.env.qual ++ "<lambda>") (hdef : defaultsOf params X.env = ([], [])) (hfree : ∀ y ∈ scope.names, y.2 = .free → ∃ c, X.env.cells.lookup y.1 = some c)
    (h : ∀ (f c' : Addr) (pm ctv : Value) (H1 : Hp) (s' : Shared), Inv X pins σ H1 s' → SI G X.K (c.to fun a => c.S a ∨ a = c') σ H1 ρ n → Grow c.S (fun a => c.S a ∨ a = c') H H1 →
      s'.heap.get? f = some (PySem.W.kla_obj "<lambda>" (X.env.qual ++ "<lambda>") params body scope (cloFrom X.env.cells scope.names []) pm c' ctv) → H1 f = none → f ∉ frs X.stack → H1 c' = some (CodeO c' (X.env.qual ++ "<lambda>")) → Q (.ref f) s') :
    wpAny (model X.prog X.w) X.A (eval (.Lambda params body scope pos) X.env) Q E s := by
  obtain ⟨ps, hP, ht, ha⟩ := (J.tab _ hm).2
  refine PySem.W.kla_eval hdef ?_
  have bP : s.heap.BuiltinsAt X.mg P := TB.bm.keeps I.bk
  have hP' : s.heap.get? P = some { cls := .none, data := .fields ps } := I.hok P _ hP
  have nofr : ∀ f, s.heap.objs.size ≤ f → f ∉ frs X.stack := fun f hf z => by
    rcases List.mem_cons.mp (I.stkSub _ z) with e | e
    · exact Nat.lt_irrefl _ (Nat.lt_of_lt_of_le (e ▸ I.lt) hf)
    · exact I.nofs hf e
  cases hc : codeAmong pos ps.toList with
  | none =>
    refine PySem.W.kla_makeFunction (mg := X.mg) (c := cc) (P := P) (ps := ps) (closure_ok hfree) I.ok.glob (I.mod.glob.keeps I.bk) hcode (TB.code.keeps I.bk) hP' ht hc TB.gP bP fun c' ctv h' tk hx hge hlt hrec htb => ?_
    obtain ⟨c2, oc, vs, t, e2, hoc, hd, hv⟩ := hrec
    cases e2
    have hsz : s.heap.objs.size ≤ h'.objs.size := Nat.le_trans hge (Nat.le_of_lt hlt)
    have nC : H c' = none := I.hok.fresh hge
    have I1 := inv_table (t' := tk) (more := #[rawInt pos.line, rawInt pos.col, .ref c']) (h' := h'.push (PySem.W.kla_obj "<lambda>" (X.env.qual ++ "<lambda>") params body scope (cloFrom X.env.cells scope.names []) ((X.mg "__name__").getD .none) c' ctv)) I hP
      (fun b o hb e => Heap.get?_push_of_some _ (hx b o hb e)) (Heap.get?_push_of_some _ htb) hge ⟨oc, vs, t, Heap.get?_push_of_some _ hoc, hd, hv⟩
    obtain ⟨J1, g1⟩ := J.code (pos := pos) hm hu hP ht ha nC
    refine h h'.objs.size c' ((X.mg "__name__").getD .none) ctv _ _ I1 J1 g1 (Heap.get?_push_size _ rfl) ?_ (nofr _ hsz) upd_same
    rw [upd_ne (Nat.ne_of_gt hlt), upd_ne (Nat.ne_of_gt (Nat.lt_of_lt_of_le (Heap.lt_size hP') hsz))]
    exact I.hok.fresh hsz
  | some cv =>
    obtain ⟨c', e, hS, hco⟩ := ha pos cv hc
    subst e
    refine PySem.W.kla_makeFunctionHit (mg := X.mg) (c := cc) (P := P) (ps := ps) (closure_ok hfree) I.ok.glob (I.mod.glob.keeps I.bk) hcode (TB.code.keeps I.bk) hP' ht hc bP fun ctv h' tk hx hsz => ?_
    have I1 : Inv X pins σ H { s with heap := h'.push (PySem.W.kla_obj "<lambda>" (X.env.qual ++ "<lambda>") params body scope (cloFrom X.env.cells scope.names []) ((X.mg "__name__").getD .none) c' ctv), toks := tk } := I.kept fun b o e => Heap.get?_push_of_some _ (hx b o e)
    have eS : (fun a => c.S a ∨ a = c') = c.S := by
      funext a
      exact propext ⟨fun z => z.elim id fun z => z ▸ hS, .inl⟩
    refine h h'.objs.size c' ((X.mg "__name__").getD .none) ctv H _ I1 ?_ ?_ (Heap.get?_push_size _ rfl) (I.hok.fresh hsz) (nofr _ hsz) hco
    · rw [eS]; exact J
    · rw [eS]; exact .refl
end
end PL

/-! The layer: a lambda handed to a def, called there; the call of such a def. -/
namespace PL
open PySem PySem.Spec PyProof.Rows L2 LamX
def emb1 : Option D → SV
  | some x => .d x
  | none => .un
def ds1 : SV → Option D
  | .d x => some x
  | _ => none
abbrev embs (ds : List (Option D)) : Env := ds.map emb1
abbrev dsOf (ρ : Env) : List (Option D) := ρ.map ds1
def lamIs {α : Type} (ρ : Env) (i : Nat) (f c : Addr) (q : Str) (σ : L2.St) (k : List (Option D) → W α) : W α := match svAt ρ i with
  | .lam f' c' q' σ' ds => grd (f' = f ∧ c' = c ∧ q' = q ∧ σ' = σ) (k ds)
  | _ => stuck
theorem lamIs_inv {α : Type} {ρ : Env} {i : Nat} {n : Nt} {f c : Addr} {q : Str} {σ : L2.St} {k : List (Option D) → W α} {P : α → Nt → Prop} {PX : Exc → Nt → Prop} (h : lamIs ρ i f c q σ k n P PX) : ∃ ds, ρ[i]? = some (.lam f c q σ ds) ∧ k ds n P PX := by
  unfold lamIs svAt at h
  cases e : ρ[i]? with
  | none => rw [e] at h; exact h.elim
  | some sv =>
    rw [e] at h
    cases sv with
    | lam f' c' q' σ' ds =>
      obtain ⟨⟨rfl, rfl, rfl, rfl⟩, h⟩ := h
      exact ⟨ds, rfl, h⟩
    | _ => exact h.elim
theorem lamIs_eq {α : Type} {f c : Addr} {q : Str} {σ : L2.St} {ds : List (Option D)} {k : List (Option D) → W α} (l : Env) : lamIs (.lam f c q σ ds :: l) 0 f c q σ k = k ds := by
  funext n P PX
  exact propext ⟨fun h => h.2, fun h => ⟨⟨rfl, rfl, rfl, rfl⟩, h⟩⟩
section
variable {G : PenK} {X : Cx} {pins : List (Addr × Obj)} {σ : L2.St} {H : Hp} {s : Shared}
/-- the state of the lambda's names where it is called -/
theorem SI.lam {K : PySem.W.Frag} {c : C} {τ : L2.St} {ρ : Env} {n : Nt} {b : Addr} {q : Str} {ds : List (Option D)} (J : SI G K c τ H ρ n) (h : LamOk K c.S H b q σ ds) : SI G K ⟨c.S, H, c.pen, fun a => H a ≠ none ∧ ¬ c.S a, fun a => n.μ a ≠ none⟩ σ H (embs ds) n := by
  obtain ⟨_, _, hl, hd⟩ := h
  have key : ∀ (i : Nat) (sv : SV), (embs ds)[i]? = some sv → sv = .un ∨ ∃ x, sv = .d x ∧ ds[i]? = some (some x) := fun i sv e => by
    rw [List.getElem?_map] at e
    cases z : ds[i]? with
    | none => rw [z] at e; cases e
    | some o =>
      rw [z] at e
      cases o with
      | none => cases e; exact .inl rfl
      | some x => cases e; exact .inr ⟨x, rfl, rfl⟩
  have no : ∀ (i : Nat) (sv : SV), (embs ds)[i]? = some sv → sv.isOwn = true → False := fun i sv e ho => by
    rcases key i sv e with rfl | ⟨x, rfl, _⟩ <;> cases ho
  refine ⟨by rw [List.length_map, hl], fun i sv e => ?_, fun i sv a e ho => (no i sv e ho).elim, fun i j sv sv' a _ e _ ho => (no i sv e ho).elim, J.dom, fun a o e _ => e, fun p e => ?_, fun a h => ⟨h.2, h.1⟩, fun p hp => ⟨⟨(J.tabN hp).2.2, (J.tabN hp).1⟩, (J.tab p hp).2⟩, fun a nd e => ⟨(J.mu a nd e).1, (J.mu a nd e).2.1, .inl (by show n.μ a ≠ none; rw [e]; exact fun z => nomatch z), (J.mu a nd e).2.2.2⟩, fun a h => ⟨h, (J.muS h).2⟩, J.mz⟩
  · rcases key i sv e with rfl | ⟨x, rfl, e2⟩
    · trivial
    · exact hd i x e2
  · obtain ⟨h1, h2, h3, _⟩ := J.pen p e
    obtain ⟨k1, k2⟩ := G.there h1
    exact ⟨h1, h2, h3, k1, k2⟩
/-- x(), in the def that got the lambda -/
theorem e_act {Eg : XK} {Ng : List Str} {qg : Str} {sg : Scope} {g f c' : Addr} {cdg pm ctv : Value} {params : Arguments} {body : Expr} {scope : Scope} {k i : Nat} {a : Str} {pn : List (Addr × Obj)} {xe : Value → Shared → Prop} {W : WX} {gb : Env → PL.W D} {p1 p2 : Pos}
    (I : Inv X pins σ H s) (L : LamS X.env.scope scope) (hf : s.heap.get? f = some (PySem.W.kla_obj "<lambda>" (X.env.qual ++ "<lambda>") params body scope (cloFrom X.env.cells scope.names []) pm c' ctv)) (hfn : H f = none) (hfr : f ∉ frs X.stack)
    (hbind : bindArgs (PySem.W.kla_fn "<lambda>" (X.env.qual ++ "<lambda>") params body scope (cloFrom X.env.cells scope.names []) pm (.ref c') ctv) ⟨[], []⟩ = pure [])
    (tk : Takes ((cxOf (L2.CX X.prog X.w) X.prog X.w X.K X.mg X.base Ng qg sg g cdg X.A X.stack s H Eg).tr pn xe) W) (hr : Room (k + 1) (X.A.deeper (envOfC qg sg s.heap.objs.size g cdg)))
    (hbody : ∀ (A : Around) (outer : List PySem.Env) (s : Shared) (H : Hp) (E : XK), A.guards = X.A.guards → Room k (A.deeper (lamEnv X scope s.heap.objs.size f c')) → PL.E G (lamCx X A outer s H E scope f c') (fun cls d _ H => E cls d H) body gb)
    (hN : Ng[i]? = some a) (hv : Vis sg a) (hd : (a == ("__debug__" : Str)) = false) (hcd : (a == ("__classdict__" : Str)) = false) :
    PL.E G ((cxOf (L2.CX X.prog X.w) X.prog X.w X.K X.mg X.base Ng qg sg g cdg X.A X.stack s H Eg).tr pn xe) W (.Call (.Name a p1) [] [] p2) (fun ρ => lamIs ρ i f c' (X.env.qual ++ "<lambda>") σ fun ds => gb (embs ds)) := by
  refine ⟨fun pinsZ sZ σZ HZ Q IZ ⟨c1, ρ1, n1, P, PX, J, q, hg, hx⟩ => ?_⟩
  obtain ⟨ds, e1, q⟩ := lamIs_inv (show lamIs ρ1 i f c' (X.env.qual ++ "<lambda>") σ (fun ds => gb (embs ds)) n1 P PX from q)
  obtain ⟨es, hL⟩ := J.slots i _ e1
  refine wpAny_Call_Name_kw (thn ((pe_var (pos := p1) (i := i) hN hv hd hcd).run pinsZ sZ σZ HZ (fun v H1 => v = .ref f ∧ H1 = HZ) IZ ⟨.ref f, slot_some es, rfl, rfl⟩) fun u s1 ⟨v, H1, I1, r1, q1⟩ => ?_)
  obtain ⟨ev, eH⟩ := q1
  subst ev
  rw [eH] at I1
  obtain rfl : u = Value.ref f := r1
  have of1 : s1.heap.get? f = some (PySem.W.kla_obj "<lambda>" (X.env.qual ++ "<lambda>") params body scope (cloFrom X.env.cells scope.names []) pm c' ctv) := I1.base.keep f _ hf hfn hfr (fun z => nomatch (show f ∈ ([] : List Addr) from z))
  refine PySem.W.callWith_F0 ⟨_, _, _, _, of1⟩ ?_
  have un : Un (frs X.stack) [] H HZ s.heap s1.heap := I1.base
  obtain ⟨⟨oc, vs, t, hoc, hdc, hvc⟩, _, _⟩ := I1.hok c' _ hL.2.1
  have rc : codeAny (model X.prog X.w) (X.A.deeper (envOfC qg sg s.heap.objs.size g cdg)) (.call (.ref f) ⟨[], []⟩) (CR (L2.CX X.prog X.w) (envOfC qg sg s.heap.objs.size g cdg :: X.stack) X.prog X.w HZ s1 Q (WE W σZ)) s1 := by
    refine PySem.W.kla_callFunE hr.depth of1 rfl L.co L.gen rfl ⟨c', oc, vs, t, rfl, hoc, hdc, hvc⟩ ?_
    rw [hbind]
    refine wpAny_pure (wpAny_newFunctionEnv (fun y hy => (L.own y hy).2) (fun y hy => absurd hy (by simp)) (fun h₁ hns hsb => ⟨I1.nolimit.fresh _ hsb, ?_⟩) L.kind)
    show codeAny _ _ (.expr body (lamEnv X scope s1.heap.objs.size f c')) _ _
    have kp : ∀ b o, s1.heap.get? b = some o → h₁.get? b = some o := fun b o e => hsb.extBut b o (Nat.ne_of_lt (Heap.lt_size e)) (Heap.get?_push_of_some _ e)
    have JJ : Inv (lamCx X (X.A.deeper (envOfC qg sg s.heap.objs.size g cdg)) (envOfC qg sg s.heap.objs.size g cdg :: X.stack) s1 HZ (WE W σZ) scope f c') [] σ HZ { s1 with heap := h₁, toks := s1.toks + ([] : List (Str × Value)).length } :=
      lam_start2 I L I1.env0 hr.hd un hns kp
    refine PySem.W.kla_codeExpr (wpAny_mono ((hbody (X.A.deeper (envOfC qg sg s.heap.objs.size g cdg)) (envOfC qg sg s.heap.objs.size g cdg :: X.stack) s1 HZ (WE W σZ) rfl (hr.deeper _)).run [] _ _ HZ Q JJ ⟨_, embs ds, n1, P, PX, J.lam hL, q, fun d k v S' H' p gr I' r => hg d k v S' H' p gr (J.called (SI.after gr I') (.inl rfl)) r, fun x k S' H' cls dd p gr I' rx => hx x k S' H' cls dd p gr (J.called (SI.after gr I') (.inl rfl)) rx⟩) (fun v s' hq => ?_) fun e s' hq => hq)
    obtain ⟨w', H', J', rv, q⟩ := hq
    exact ⟨w', H', J'.os, J'.bare, J'.base, J'.hok, rv, q⟩
  refine wpAny_call (codeAny_mono rc fun r s' hq => ?_)
  cases r with
  | error e => exact passAt tk σZ pinsZ HZ s1 e s' I1 hq
  | ok fl =>
    cases fl with
    | ret u => exact I1.after hq
    | next => exact False.elim hq
    | brk => exact False.elim hq
    | cont => exact False.elim hq
end
/-- the body of a def that gets a lambda and calls it: dh makes its answer of the lambda's -/
def WalkL (G : PenK) (P : Program) (w : World) (K : PySem.W.Frag) (mg : Str → Option Value) (base : Heap) (kk : Nat) (x a : Str) (g : Addr) (st : Stmt) (Ng : List Str) (dh : W D → W D) : Prop :=
  ∀ (f c' : Addr) (q : Str) (σ : L2.St) (ds : List (Option D)) (call : Env → W D) (m : W D) (cdv : Value) (A : Around) (outer : List PySem.Env) (s : Shared) (H : Hp) (E : XK) (Wx : WX), A.guards = some [] → Room kk (A.deeper (envOfC x (defScope st) s.heap.objs.size g cdv)) → Takes (cxOf (L2.CX P w) P w K mg base Ng x (defScope st) g cdv A outer s H E) Wx →
    PassesOwn (model P w) (A.deeper (envOfC x (defScope st) s.heap.objs.size g cdv)) (envOfC x (defScope st) s.heap.objs.size g cdv) (cxOf (L2.CX P w) P w K mg base Ng x (defScope st) g cdv A outer s H E).xe → (∀ l, call (SV.lam f c' q σ ds :: l) = m) →
    (∀ (W : WX) (pn : List (Addr × Obj)) (xe : Value → Shared → Prop) (p1 p2 : Pos), Takes ((cxOf (L2.CX P w) P w K mg base Ng x (defScope st) g cdv A outer s H E).tr pn xe) W → PL.E G ((cxOf (L2.CX P w) P w K mg base Ng x (defScope st) g cdv A outer s H E).tr pn xe) W (.Call (.Name a p1) [] [] p2) call) →
    SG G (cxOf (L2.CX P w) P w K mg base Ng x (defScope st) g cdv A outer s H E) Wx (defBody st) (SV.lam f c' q σ ds :: List.replicate (Ng.length - 1) .un) EnT (dh m)
section
variable {G : PenK} {X : Cx} {Wx : WX}
/-- x(lambda: body) -/
theorem e_lamcall {x a : Str} {g cc P : Addr} {k : Nat} {fd : FuncData} {st : Stmt} {Ng : List Str} {dh : W D → W D} {params : Arguments} {body : Expr} {scope : Scope} {gb : Env → W D} {p lpos pos : Pos}
    (F : Fun X.K x x st g fd) (hbd : Binds X.K fd [a] []) (Sg : FnScope Ng [a] (defScope st)) (hNg : Ng[0]? = some a) (hva : Vis (defScope st) a) (walk : WalkL G X.prog X.w X.K X.mg X.base (k + 1) x a g st Ng dh)
    (hm : X.mg x = some (.ref g)) (hgd : X.A.guards = some []) (tk : Takes X Wx) (TB : TabB X.base X.mg cc P) (hcode : X.env.code = .ref cc) (hmT : (P, X.env.qual ++ "<lambda>") ∈ G.tab) (hu : ∀ p ∈ G.tab, p.1 = P → p.2 = X.env.qual ++ "<lambda>")
    (hr : Room (k + 2) X.A) (L : LamS X.env.scope scope) (hdef : defaultsOf params X.env = ([], [])) (hbind : ∀ (q : Str) (cl : List (Str × Addr)) (pm cv ctv : Value), bindArgs (PySem.W.kla_fn "<lambda>" q params body scope cl pm cv ctv) ⟨[], []⟩ = pure [])
    (hbody : ∀ (A : Around) (outer : List PySem.Env) (s : Shared) (H : Hp) (E : XK) (f c' : Addr), A.guards = some [] → Room k (A.deeper (lamEnv X scope s.heap.objs.size f c')) → PL.E G (lamCx X A outer s H E scope f c') (fun cls d _ H => E cls d H) body gb)
    (hg : Gl X x := by rfl) (hdb : (x == ("__debug__" : Str)) = false := by decide) (hd : (a == ("__debug__" : Str)) = false := by decide) (hcd : (a == ("__classdict__" : Str)) = false := by decide) :
    PL.E G X Wx (.Call (.Name x p) [.Lambda params body scope lpos] [] pos) (fun ρ => dh (gb (embs (dsOf ρ)))) := by
  refine ⟨fun pins s σ H Q I ⟨c, ρ, n, P0, PX, J, q, hgl, hx⟩ => ?_⟩
  obtain ⟨oc, od, kV, doc, pm, an, cdv, ct, osl, rfl, lk, hcg⟩ := F.ex
  refine wpAny_Call_Name_kw (ld_glob I hg hm ?_ hdb)
  refine PySem.W.callWith_K (h₀ := X.base) I.ok.mod.kin F.kp ?_ (by rfl) (by rfl)
  show wpAny _ _ (spliced ((false, eval (.Lambda params body scope lpos) X.env) :: backTo pos (starEach [] X.env))) _ _ s
  refine Calls.spliced_cons (lam_make3 I J TB hcode hmT hu hdef (L.has I.ok) fun f c' pm' ctv H1 s' I1 J1 g1 hf hfn hfr hco => ?_)
  refine Calls.spliced_nil ⟨I1.kIn, ?_⟩
  have hL : LamOk X.K (fun a => c.S a ∨ a = c') H1 c' (X.env.qual ++ "<lambda>") σ (dsOf ρ) := ⟨.inr rfl, hco, by rw [List.length_map, J1.len], fun i x e => by
    rw [List.getElem?_map] at e
    cases z : ρ[i]? with
    | none => rw [z] at e; cases e
    | some sv =>
      rw [z] at e
      cases sv with
      | d y => cases e; exact J1.slots i _ z
      | _ => cases e⟩
  have rc : codeAny (model X.prog X.w) X.A (.call (.ref g) ⟨[.ref f], []⟩) (CR (L2.CX X.prog X.w) X.stack X.prog X.w H1 s' Q (WE Wx σ)) s' := by
    refine run_ofS (N := Ng) (ps := [a]) (us := [.ref f]) (vs := [.ref f]) lk hcg Sg hr I1.env0 (hbd s' [.ref f] I1.kIn rfl) (.cons rfl .nil) rfl fun hr' => ?_
    refine ⟨_, walk f c' (X.env.qual ++ "<lambda>") σ (dsOf ρ) (fun ρh => lamIs ρh 0 f c' (X.env.qual ++ "<lambda>") σ fun ds => gb (embs ds)) _ cdv X.A X.stack s' H1 (WE Wx σ) (fun cls d _ H => WE Wx σ cls d H) hgd hr' (L2.takes_of rfl rfl rfl rfl) (passes_of rfl) (fun l => lamIs_eq l)
      (fun W pn xe p1 p2 tk' => e_act I1 L hf hfn hfr (hbind _ _ _ _ _) tk' hr' (fun A outer s H E hgA hr2 => hbody A outer s H E f c' (hgA.trans hgd) hr2) hNg hva hd hcd), ?_⟩
    have hN1 : [SV.lam f c' (X.env.qual ++ "<lambda>") σ (dsOf ρ)].length ≤ Ng.length := by
      cases Ng with
      | nil => cases hNg
      | cons _ _ => exact Nat.succ_le_succ (Nat.zero_le _)
    refine ⟨⟨fun a => c.S a ∨ a = c', H1, c.pen, fun a => H1 a ≠ none ∧ ¬ (c.S a ∨ a = c'), fun a => n.μ a ≠ none⟩, n, P0, PX, SI.entry (args := [SV.lam f c' (X.env.qual ++ "<lambda>") σ (dsOf ρ)]) hN1 J1.dom (fun p e => ⟨(J1.pen p e).1, (J1.pen p e).2.1, (J1.pen p e).2.2.1⟩) (fun q hq => ⟨(J1.tabN hq).1, (J1.tab q hq).2⟩) (J1.muOk c.pen fun _ h => h) ⟨.ref f, [], rfl, ⟨rfl, hL⟩, rfl⟩, q, ⟨?_, ?_, fun _ _ _ _ _ _ z => z.elim, fun _ _ _ _ _ _ z => z.elim⟩, fun x k σ' ρ' S' H' cls dd p gr I' rx => hx x k S' H' cls dd p (g1.trans gr) (J1.called (SI.after gr I') (.inl rfl)) rx⟩
    · rintro ρ' _ k σ' S' H' rfl p gr I'
      exact hgl .non k .non S' H' p (g1.trans gr) (J1.called (SI.after gr I') (.inl rfl)) rfl
    · rintro d _ k v σ' ρ' S' H' rfl p gr I' r
      exact hgl d k v S' H' p (g1.trans gr) (J1.called (SI.after gr I') (.inl rfl)) r
  refine wpAny_call (codeAny_mono rc fun r s2 hq => ?_)
  cases r with
  | error e => exact passAt tk σ pins H1 s' e s2 I1 hq
  | ok fl =>
    cases fl with
    | ret u => exact I1.after hq
    | next => exact False.elim hq
    | brk => exact False.elim hq
    | cont => exact False.elim hq
end
end PL

/-! The layer: the end of a law's row, with tables of code objects. -/
namespace PL
open PySem PySem.Spec PyProof.Rows L2 LamX
section
variable {P : Program} {w : World} {K : PySem.W.Frag} {mg mb : Str → Option Value}
/-- the law is called over a heap in which the script and the tables alone may be told -/
theorem law_coreT {k : Nat} {fa a : Addr} {cs : List (Addr × Addr)} {T : List (Addr × Str)} {fd : FuncData} {x : Str} {s : Shared} {vs : List Value} {ns : List Int} {H : Hp} (kin : K.In s.heap) (hns : s.heap.Ns mainGlobals mg) (hb : s.heap.Ns builtinsNs mb) (hbb : ∀ y : Str, y ≠ "__name__" → mb y = bootBuiltins y) (hlim : s.heap.NoLimit) (hgen : s.gens = #[])
    (hT : ∀ p ∈ cs, s.heap.get? p.2 = some { cls := .none, data := .fields #[] }) (nT : ∀ p ∈ cs, K.lookup p.2 = none) (C : ∀ p ∈ cs, PySem.W.CodeHd s.heap p.1 p.2) (hTT : ∀ q ∈ T, ∃ p ∈ cs, q.1 = p.2)
    (hbm : ∃ (bm : Addr) (ob : Obj), mg "__builtins__" = some (.ref bm) ∧ bm ≠ builtinsNs ∧ s.heap.get? bm = some ob ∧ ob.cls = .type "module" ∧ ob.dict = some builtinsNs ∧ ob.data = .plain)
    (ho : s.heap.get? a = some { cls := .type "list", data := .seq vs.toArray }) (hl : ns.length ≤ 63) (hr : Room k callerA) (F : ∀ base : Heap, K.In base → base.Ns mainGlobals mg → (∀ p ∈ cs, TabB base mg p.1 p.2) → FnG P w K mg base k fa fd [x] (spLawT K T)) (hbind : ∀ (s : Shared) (u : Value), BindsTo s fd ⟨[u], []⟩ [(x, u)])
    (only : ∀ b, H b ≠ none → (b = a ∧ ∃ o u, H b = some (.frz o (.lst u))) ∨ (b ∈ cs.map (·.2) ∧ H b = some (.tbl #[]))) (tb : ∀ p ∈ cs, H p.2 = some (.tbl #[])) (seq : SqL K H a (ns.map V.int)) (ok : HOk P w H s.heap) (notK : (∃ o u, H a = some (.frz o (.lst u))) → K.lookup a = none) :
    codeAny (model P w) callerA (.call (.ref fa) ⟨[.ref a], []⟩) (fun r s' => r = .ok (.ret (.bool true)) ∧ OldK s.heap s'.heap ∧ s'.os = s.os ∧ AllBare s'.gens) s := by
  have isT : ∀ b : Addr, b ∈ cs.map (·.2) → s.heap.get? b = some { cls := .none, data := .fields #[] } := fun b hb => by
    obtain ⟨p, hp, e⟩ := List.mem_map.mp hb
    rw [← e]; exact hT p hp
  -- what is told is a list, or a table
  have free : ∀ {b : Addr} {o : Obj}, s.heap.get? b = some o → (∀ v n, o.data ≠ .seq v n) → o.data ≠ .fields #[] → H b = none := fun {b o} e h1 h2 => by
    rcases Classical.em (H b = none) with z | z
    · exact z
    · rcases only b z with ⟨rfl, _⟩ | ⟨hm, _⟩
      · rw [ho] at e; cases e; exact (h1 _ _ rfl).elim
      · rw [isT b hm] at e; cases e; exact (h2 rfl).elim
  have dictOut : ∀ {b : Addr} {m : Str → Option Value}, s.heap.Ns b m → (hidT s.heap H).Ns b m := fun {b m} ⟨o, es, ep, e, d, r⟩ => ⟨o, es, ep, hidT_get e (free e (fun v n z => by rw [d] at z; cases z) fun z => by rw [d] at z; cases z), d, r⟩
  have kin' : K.In (hidT s.heap H) := fun b o e => hidT_get (kin b o e) (by
    rcases Classical.em (H b = none) with z | z
    · exact z
    · rcases only b z with ⟨rfl, hf⟩ | ⟨hm, _⟩
      · rw [notK hf] at e; cases e
      · obtain ⟨p, hp, ep⟩ := List.mem_map.mp hm
        rw [← ep, nT p hp] at e; cases e)
  have mod : Mod K mg (hidT s.heap H) := ⟨kin', dictOut hns, ⟨mb, dictOut hb, hbb⟩, by obtain ⟨mc, h1, h2⟩ := hlim; exact ⟨mc, dictOut h1, h2⟩⟩
  have TB : ∀ p ∈ cs, TabB (hidT s.heap H) mg p.1 p.2 := fun p hp => by
    have hTp := hT p hp
    refine ⟨?_, ?_, fun z => ?_⟩
    · obtain ⟨o, us, file, tf, flags, tg, inF, text, tt, e1, r1, r2, r3, r4⟩ := C p hp
      refine ⟨o, us, file, tf, flags, tg, inF, text, tt, hidT_get e1 (free e1 (fun v n z => by rw [r2] at z; cases z) fun z => ?_), r1, r2, r3, r4⟩
      rw [r2] at z
      cases z
      simp at r3
    · obtain ⟨bm, ob, b1, b2, b3, b4, b5, b6⟩ := hbm
      have nG : bm ≠ mainGlobals := fun q => by
        obtain ⟨o, es, ep, e, hd, _⟩ := hns
        rw [q, e] at b3; cases b3
        rw [hd] at b6; cases b6
      have nP : bm ≠ p.2 := fun q => by
        rw [q, hTp] at b3; cases b3; cases b6
      exact ⟨bm, ob, b1, b2, nG, nP, hidT_get b3 (free b3 (fun v n z => by rw [b6] at z; cases z) fun z => by rw [b6] at z; cases z), b4, b5, b6⟩
    · obtain ⟨o, es, ep, e, hd, _⟩ := hns
      rw [z, hTp] at e; cases e; cases hd
  have e0 : Env0 P w K mg (hidT s.heap H) callerA [] s H := ⟨rfl, mod, fun _ _ e => of_hidT e, Nat.le_of_eq (hidT_size _ _), trivial, fun b hb => absurd hb (by simp [frs]), ok, .of_eq hgen⟩
  refine codeAny_mono ((F _ kin' (dictOut hns) TB).run callerA [] s H ⟨[.ref a], []⟩ [.ref a] [.ref a] (fun v _ => v = .bl true) (fun _ _ _ => False) rfl hr e0 (hbind s (.ref a)) (.cons rfl .nil) ⟨a, ns, rfl, seq, hl, fun q hq => by
    obtain ⟨p, hp, e⟩ := hTT q hq
    rw [e]; exact tb p hp, fun _ => rfl⟩) fun r s' h => ?_
  cases r with
  | error e => obtain ⟨_, _, _, _, _, _, _, _, _, _, _, _, z⟩ := h; exact z.elim
  | ok fl =>
    cases fl with
    | ret u =>
      obtain ⟨v, H', os, bare, un, hok', r', rfl⟩ := h
      obtain rfl : u = Value.bool true := r'
      have key : ∀ b o, b ∉ cs.map (·.2) → s.heap.get? b = some o → s'.heap.get? b = some o := fun b o nb e => by
        rcases Classical.em (H b = none) with q | q
        · exact un.keep b o e q (by simp [frs]) (by simp)
        · rcases only b q with ⟨_, o2, u, h2⟩ | ⟨hm, _⟩
          · have e1 := (ok b _ h2).1
            rw [e] at e1
            cases e1
            exact (hok' b _ (un.frzs b o (.lst u) h2)).1
          · exact (nb hm).elim
      have grown : ∀ p ∈ cs, ∃ more : Array Value, s'.heap.get? p.2 = some { cls := .none, data := .fields more } := fun p hp => by
        obtain ⟨more, z⟩ := un.tbls p.2 #[] (tb p hp)
        exact ⟨_, hok' p.2 _ z⟩
      refine ⟨rfl, ⟨fun b o e => ?_, fun b o e => ?_⟩, os, bare⟩
      · rcases Classical.em (b ∈ cs.map (·.2)) with hb | hb
        · obtain ⟨p, hp, ep⟩ := List.mem_map.mp hb
          obtain ⟨more, hm⟩ := grown p hp
          rw [← ep] at e ⊢
          rw [hT p hp] at e
          cases e
          exact .inr (.inl ⟨((C p hp).tab (hT p hp)).isCodeTable, rfl, #[], more, rfl, by rw [Array.empty_append]; exact hm⟩)
        · exact .inl (key b o hb e)
      · rcases Classical.em (b ∈ cs.map (·.2)) with hb | hb
        · obtain ⟨p, hp, ep⟩ := List.mem_map.mp hb
          obtain ⟨more, hm⟩ := grown p hp
          rw [← ep]
          exact ⟨_, hm⟩
        · exact ⟨o, key b o hb e⟩
    | next => exact h.elim
    | brk => exact h.elim
    | cont => exact h.elim
theorem law_runT {k : Nat} {fa a : Addr} {cs : List (Addr × Addr)} {T : List (Addr × Str)} {fd : FuncData} {x : Str} {s : Shared} {vs : List Value} {ns : List Int} (kin : K.In s.heap) (hns : s.heap.Ns mainGlobals mg) (hb : s.heap.Ns builtinsNs mb) (hbb : ∀ y : Str, y ≠ "__name__" → mb y = bootBuiltins y) (hlim : s.heap.NoLimit) (hgen : s.gens = #[])
    (hT : ∀ p ∈ cs, s.heap.get? p.2 = some { cls := .none, data := .fields #[] }) (nT : ∀ p ∈ cs, K.lookup p.2 = none) (C : ∀ p ∈ cs, PySem.W.CodeHd s.heap p.1 p.2) (hTT : ∀ q ∈ T, ∃ p ∈ cs, q.1 = p.2)
    (hbm : ∃ (bm : Addr) (ob : Obj), mg "__builtins__" = some (.ref bm) ∧ bm ≠ builtinsNs ∧ s.heap.get? bm = some ob ∧ ob.cls = .type "module" ∧ ob.dict = some builtinsNs ∧ ob.data = .plain)
    (ho : s.heap.get? a = some { cls := .type "list", data := .seq vs.toArray }) (hi : IntsAre vs ns) (hl : ns.length ≤ 63) (hr : Room k callerA) (F : ∀ base : Heap, K.In base → base.Ns mainGlobals mg → (∀ p ∈ cs, TabB base mg p.1 p.2) → FnG P w K mg base k fa fd [x] (spLawT K T)) (hbind : ∀ (s : Shared) (u : Value), BindsTo s fd ⟨[u], []⟩ [(x, u)]) :
    codeAny (model P w) callerA (.call (.ref fa) ⟨[.ref a], []⟩) (fun r s' => r = .ok (.ret (.bool true)) ∧ OldK s.heap s'.heap ∧ s'.os = s.os ∧ AllBare s'.gens) s := by
  have rv := vals_ints hi
  have big : ns.length ≤ sizeLine := Nat.le_trans hl (by rw [sizeLine_eq]; decide)
  have isT : ∀ b : Addr, b ∈ cs.map (·.2) → s.heap.get? b = some { cls := .none, data := .fields #[] } := fun b hb => by
    obtain ⟨p, hp, e⟩ := List.mem_map.mp hb
    rw [← e]; exact hT p hp
  have aT : a ∉ cs.map (·.2) := fun z => by
    have q := isT a z
    rw [ho] at q
    cases q
  have memT : ∀ p ∈ cs, p.2 ∈ cs.map (·.2) := fun p hp => List.mem_map.mpr ⟨p, hp, rfl⟩
  have okT : ∀ b, b ∈ cs.map (·.2) → ∀ H : Hp, ObjOk P w H s.heap b (.tbl #[]) := fun b hb _ => isT b hb
  by_cases hk : K.lookup a = none
  · refine law_coreT (H := fun b => if b = a then some (.frz { cls := .type "list", data := .seq vs.toArray } (.lst (ns.map V.int))) else if b ∈ cs.map (·.2) then some (.tbl #[]) else none) kin hns hb hbb hlim hgen hT nT C hTT hbm ho hl hr F hbind (fun b z => ?_) (fun p hp => (if_neg (show ¬ p.2 = a from fun z => aT (z ▸ memT p hp))).trans (if_pos (memT p hp))) (.inl (.inr ⟨_, if_pos rfl⟩)) (fun b u z => ?_) fun _ => hk
    · by_cases e : b = a
      · exact .inl ⟨e, _, _, if_pos e⟩
      · by_cases e2 : b ∈ cs.map (·.2)
        · exact .inr ⟨e2, (if_neg e).trans (if_pos e2)⟩
        · exact absurd ((if_neg e).trans (if_neg e2)) z
    · by_cases e : b = a
      · have z2 := (if_pos e).symm.trans z
        cases z2
        subst e
        exact ⟨ho, by rw [List.length_map]; exact big, vs, _, rv, ho⟩
      · have z2 := (if_neg e).symm.trans z
        by_cases e2 : b ∈ cs.map (·.2)
        · have z3 := (if_pos e2).symm.trans z2
          cases z3
          exact okT b e2 _
        · have z3 := (if_neg e2).symm.trans z2
          cases z3
  · obtain ⟨o, ek⟩ := Option.ne_none_iff_exists'.mp hk
    have e := kin a o ek
    rw [ho] at e
    cases e
    refine law_coreT (H := fun b => if b ∈ cs.map (·.2) then some (.tbl #[]) else none) kin hns hb hbb hlim hgen hT nT C hTT hbm ho hl hr F hbind (fun b z => ?_) (fun p hp => if_pos (memT p hp)) (.inr ⟨_, vs.toArray, _, ek, rfl, rfl, rfl, by rw [List.size_toArray, hi.length]; exact big, by simpa using rv⟩) (fun b u z => ?_) fun ⟨o, u, z⟩ => ?_
    · by_cases e2 : b ∈ cs.map (·.2)
      · exact .inr ⟨e2, if_pos e2⟩
      · exact absurd (if_neg e2) z
    · by_cases e2 : b ∈ cs.map (·.2)
      · have z3 := (if_pos e2).symm.trans z
        cases z3
        exact okT b e2 _
      · have z3 := (if_neg e2).symm.trans z
        cases z3
    · have z3 := (if_neg aT).symm.trans z
      cases z3
/-- the tables of the module's defs are empty -/
def TabsOf (q : Program) (mg : Str → Option Value) (h : Heap) : Prop := ∀ x : Str, ((recsOf q).any fun e => e.name == x) = true → ∃ a o fd c P, mg x = some (.ref a) ∧ h.get? a = some o ∧ o.data = .func fd ∧ fd.code = .ref c ∧ h.IsCode c P #[] ∧ h.TableAt c P #[]
theorem TabsOf.at {K : PySem.W.Frag} {q : Program} {mg : Str → Option Value} {h : Heap} {x : Str} {f c P : Addr} {fd : FuncData} {oc : Value} {od : Option Addr} {osl : Array (Option Value)} (T : TabsOf q mg h) (hx : ((recsOf q).any fun e => e.name == x) = true) (X : K.In h) (hm : mg x = some (.ref f)) (lk : K.lookup f = some ⟨oc, od, .func fd, osl⟩)
    (ct : fd.code = .ref c ∧ ∃ (o : Obj) (vs : Array Value), h.get? c = some o ∧ o.data = .fields vs ∧ vs[11]? = some (.ref P)) : PySem.W.CodeHd h c P ∧ h.get? P = some { cls := .none, data := .fields #[] } := by
  obtain ⟨a, o, fd', c', P', h1, h2, h3, h4, h5, h6⟩ := T x hx
  rw [hm] at h1
  cases h1
  have g1 := X _ _ lk
  rw [h2] at g1
  cases g1
  cases h3
  obtain ⟨e1, o1, vs, e2, e3, e4⟩ := ct
  rw [h4] at e1
  cases e1
  obtain ⟨⟨o2, vs2, f1, f2, f3, f4⟩, f5⟩ := id h6
  rw [e2] at f1
  cases f1
  rw [e3] at f3
  cases f3
  rw [e4] at f4
  cases f4
  exact ⟨.of h5 h6, f5⟩
/-- THE END of a law's row, with tables -/
theorem law_endT {l : PySem.W.OpenLaw} {k : Nat} {q : Program} {loose : List Str} {XP : (Str → Option Value) → Heap → Prop} {YP : World → Heap → Prop} {d : DefRec} {Kf : Params → PySem.W.Frag} {x : Str} (hn : l.most = some 63) (hdf : d.params.defaults = []) (hr : Room k callerA) (hY : ∀ (w : World) (h : Heap), YP w h → (Kf w.params).In h)
    (F : ∀ (w : World) (mg : Str → Option Value) (fa : Addr) (h : Heap), YP w h → (Kf w.params).In h → h.Ns mainGlobals mg → mg d.name = some (.ref fa) → TabsOf q mg h → ∃ (fd : FuncData) (cs : List (Addr × Addr)) (T : List (Addr × Str)), (∀ p ∈ cs, h.get? p.2 = some { cls := .none, data := .fields #[] }) ∧ (∀ p ∈ cs, (Kf w.params).lookup p.2 = none) ∧ (∀ p ∈ cs, PySem.W.CodeHd h p.1 p.2) ∧ (∀ q ∈ T, ∃ p ∈ cs, q.1 = p.2) ∧
      (∀ (s : Shared) (u : Value), BindsTo s fd ⟨[u], []⟩ [(x, u)]) ∧ ∀ base : Heap, (Kf w.params).In base → base.Ns mainGlobals mg → (∀ p ∈ cs, TabB base mg p.1 p.2) → FnG l.prog w (Kf w.params) mg base k fa fd [x] (spLawT (Kf w.params) T)) :
    PySem.W.WalkO q loose XP YP l.row.toRowW d [] (fun f vs => PySem.call f vs) := by
  refine Att.attach_callB hn hdf fun w s₀ s₁ mg mb fa o pm cd doc a vs ns Gr Y ho hd hcd hmg hobj hi hl _ hg => ?_
  obtain ⟨fd, cs, T, hT, nT, C, hTT, hb, hF⟩ := F w mg fa _ Y (hY w _ Y) Gr.T.g hmg (fun x hx => by
    obtain ⟨dL, hm, hn1⟩ := List.any_eq_true.mp hx
    have hn2 : dL.name = x := beq_iff_eq.mp hn1
    rw [← hn2]
    exact Gr.T.tab dL hm)
  exact law_runT (hY w _ Y) Gr.T.g Gr.T.b Gr.T.builtins Gr.T.nolimit hg hT nT C hTT Gr.T.bmain hobj hi hl hr hF hb
end
end PL

/-! The layer: count and index of a list of truth values. -/
namespace PL
open PySem PySem.Spec L2
section
variable {X : Cx}
end
section
variable {G : PenK} {X : Cx} {Wx : WX}
/-- class names: of the program, of the builtins -/
theorem nmG {x : Str} {c : Value} (hd : (x == ("__debug__" : Str)) = false) (hm : X.mg x = some c) (hg : Gl X x := by rfl) : Names X x c := ⟨hg, hd, .inl hm⟩
theorem nmB {x : Str} {c : Value} (hd : (x == ("__debug__" : Str)) = false) (hm : X.mg x = none) (hv : bootBuiltins x = some c) (hn : x ≠ "__name__") (hg : Gl X x := by rfl) : Names X x c := ⟨hg, hd, .inr ⟨hm, hv, hn⟩⟩
theorem lz {α : Type} {xs : List α} (n : Nat) (h : xs.length = n) (h2 : n ≤ sizeLine) : xs.length ≤ sizeLine := h ▸ h2
/-- the clauses of a list, one by one -/
theorem ap_nil {α : Type} {p : α → Prop} : ∀ x ∈ ([] : List α), p x := fun _ h => nomatch h
theorem ap_cons {α : Type} {p : α → Prop} {a : α} {l : List α} (h : p a) (t : ∀ x ∈ l, p x) : ∀ x ∈ a :: l, p x := fun x hx => by
  rcases List.mem_cons.mp hx with e | e
  · rw [e]; exact h
  · exact t x e
/-- the def statement j of a class's body -/
def clsDef (s : Stmt) (j : Nat) : Stmt := match s with
  | .ClassDef _ _ _ body _ _ _ _ _ _ _ => body.getD j (.Pass ⟨0, 0, 0, 0⟩)
  | _ => .Pass ⟨0, 0, 0, 0⟩
/-- what the kernel reads of an error's class -/
def oexChk (K : PySem.W.Frag) (C : Addr) (bmB : List Value) (newId : String) (f : Str) : Bool := PySem.W.excInitIn K C bmB newId && PySem.W.excOver K C bmB && PySem.W.hasDictIn K C && (PySem.W.findIn K (.ref C) "__setattr__" == some (some (.builtin "object.__setattr__"))) &&
  (PySem.W.subIn K (.ref C) (.type "BaseException") == some true) && (PySem.W.typeIn K (.ref C) == some (.type "type")) && PySem.W.keepIn K (.ref C) && (PySem.W.findIn K (.ref C) f == some none)
theorem oexChk_ok {K : PySem.W.Frag} {C : Addr} {bmB : List Value} {newId : String} {f : Str} (h : oexChk K C bmB newId f = true) : OexB K C bmB newId ∧ PySem.W.findIn K (.ref C) f = some none := by
  unfold oexChk at h
  simp only [Bool.and_eq_true, beq_iff_eq] at h
  obtain ⟨⟨⟨⟨⟨⟨⟨h1, h2⟩, h3⟩, h4⟩, h5⟩, h6⟩, h7⟩, h8⟩ := h
  exact ⟨⟨h1, h2, h3, h4, h5, h6, h7⟩, h8⟩
/-- the classes that have a field -/
def fldChk (K : PySem.W.Frag) (as : List (Str × Addr)) (f : Str) : Bool := as.all fun a => xfB K a.2 && (PySem.W.findIn K (.ref a.2) f == some none)
theorem fldOk_of {K : PySem.W.Frag} {mg : Str → Option Value} {as : List (Str × Addr)} {f : Str} (hm : ∀ a ∈ as, mg a.1 = some (.ref a.2)) (h : fldChk K as f = true) : FldOk K mg (as.map fun a => a.1) f := fun y A e hy => by
  obtain ⟨a, ha, ea⟩ := List.mem_map.mp hy
  have q := List.all_eq_true.mp h a ha
  rw [Bool.and_eq_true, beq_iff_eq] at q
  have := hm a ha
  rw [ea, e] at this
  cases this
  exact ⟨xfB_ok q.1, q.2⟩
theorem errI_of2 {K : PySem.W.Frag} {mg : Str → Option Value} {t : ETab} {as : List (Str × Addr)} {ns : List Str} {cs : List (Str × Value)} (hm : ∀ a ∈ as, mg a.1 = some (.ref a.2)) (hns : as.map (·.1) = ns) (hk : t.all (fun p => ns.any fun a => a == p.1) = true) (h : errChk K t as cs = true) : ErrI K mg t cs :=
  errI_of hm (by rw [← hk, ← hns]; congr 1; funext p; rw [List.any_map]; rfl) h
end
end PL

/-! errors: raise X() of a class without fields. -/
namespace PL
open PySem PySem.Spec PyProof.Rows L2
section
variable {X : Cx} {C : Addr} {bmB : List Value} {B newId initId : String}
end
section
variable {G : PenK} {X : Cx} {Wx : WX} {γ : Type} {En : Enz γ} {ρ : Env} {rest : List Stmt} {m : W γ}
end
end PL

/-! The layer: min(xs, default=None) of ints. -/
namespace PL
open PySem PySem.Spec PyProof.Rows L2
section
variable {G : PenK} {X : Cx} {Wx : WX}
end
end PL

/-! The layer: objects that are changed (lists of data without parts, of objects), told in the state. -/
namespace PL
open PySem PySem.Spec PyProof.Rows L2
def PenK.wc (G : PenK) (b : Bool) : PenK := { G with chg := b }
def setM (μ : Addr → Option Nd) (a : Addr) (nd : Nd) : Addr → Option Nd := fun b => if b = a then some nd else μ b
theorem setM_same {μ : Addr → Option Nd} {a : Addr} {nd : Nd} : setM μ a nd a = some nd := if_pos rfl
theorem setM_ne {μ : Addr → Option Nd} {a b : Addr} {nd : Nd} (h : b ≠ a) : setM μ a nd b = μ b := if_neg h
theorem setM_some {μ : Addr → Option Nd} {a b : Addr} {nd : Nd} (h : μ b ≠ none) : setM μ a nd b ≠ none := by
  unfold setM
  split
  · exact fun z => nomatch z
  · exact h
section
variable {G : PenK} {K : PySem.W.Frag} {c : C} {σ : L2.St} {ρ : Env} {H : Hp} {n : Nt} {a : Addr} {o : HO} {nd : Nd}
/-- an object is changed -/
theorem SI.st (I : SI G K c σ H ρ n) (ha : n.μ a ≠ none) (r : NdOk K c.S (upd H a o) a nd) : SI G K c σ (upd H a o) ρ ⟨n.n, setM n.μ a nd⟩ ∧ Grow c.S c.S H (upd H a o) := by
  obtain ⟨nd0, e0⟩ := Option.ne_none_iff_exists'.mp ha
  obtain ⟨m1, m2, m3, m4⟩ := I.mu a nd0 e0
  have g : Grow c.S c.S H (upd H a o) := ⟨fun _ q => q, fun b q => upd_ne fun z => m2 (z ▸ q)⟩
  have neO : ∀ i sv b, ρ[i]? = some sv → sv.isOwn = true → slot σ i = some (.ref b) → b ≠ a := fun i sv b e ho es z => by
    have := (I.own i sv b e ho es).2.2
    rw [z, e0] at this
    cases this
  refine ⟨⟨I.len, fun i sv e => (I.slots i sv e).grow g fun b eb ho => upd_ne (neO i sv b e ho eb), fun i sv b e ho es => ⟨(I.own i sv b e ho es).1, (I.own i sv b e ho es).2.1, ?_⟩, I.apart, fun b q => by rw [g.eq b q]; exact I.dom b q, fun b u e hn => ?_, fun p e => ?_, I.no, fun q e => ⟨(I.tab q e).1, (I.tab q e).2.grow g (upd_ne fun z => m4 (.inr ⟨q, e, z.symm⟩))⟩, fun b md e => ?_, fun b h => ⟨setM_some (I.mu0 b h).1, (I.mu0 b h).2⟩, fun z => ?_⟩, g⟩
  · show setM n.μ a nd b = none
    rw [setM_ne (neO i sv b e ho es)]
    exact (I.own i sv b e ho es).2.2
  · rw [upd_ne fun z => by
      rcases m3 with w | w
      · exact hn (.inr (z ▸ w))
      · rw [z, w] at e; cases e]
    exact I.fr b u e hn
  · obtain ⟨h1, h2, h3, h4, h5⟩ := I.pen p e
    exact ⟨G.dep h1 (upd_ne fun z => m4 (.inl ⟨p, e, .inl z.symm⟩)) (upd_ne fun z => m4 (.inl ⟨p, e, .inr z.symm⟩)), h2, h3, h4, h5⟩
  · have e : setM n.μ a nd b = some md := e
    by_cases z : b = a
    · rw [z] at e ⊢
      rw [setM_same] at e
      cases e
      exact ⟨r, m2, m3, m4⟩
    · rw [setM_ne z] at e
      exact ⟨(I.mu b md e).1.move (upd_ne z), (I.mu b md e).2⟩
  · have := I.mz z a
    rw [e0] at this
    cases this
end
/-! ### a name that holds an object -/
def lstM (n : Nt) (a : Addr) : Option (List Ob) := match n.μ a with
  | some (.lst xs) => some xs
  | _ => none
/-- what stands at a place of an object: data -/
def ixOb (a : Addr) (d : D) : W D := fun n P _ => ∃ (xs : List Ob) (j : Int) (x : D), lstM n a = some xs ∧ d = .int j ∧ atI xs j = some (.d x) ∧ P x n
/-- a new object -/
def mkL (xs : List D) : W Addr := fun n P _ => xs.all D.sc = true ∧ ∀ a, n.μ a = none → P a ⟨n.n, setM n.μ a (.lst (xs.map .d))⟩
section
variable {G : PenK} {X : Cx} {Wx : WX} {γ : Type} {En : Enz γ} {ρ : Env} {rest : List Stmt} {m : W γ}
/-! ### objects as arguments -/
end
/-! ### an item of a list of one's own is set -/
section
variable {G : PenK} {X : Cx} {Wx : WX} {γ : Type} {En : Enz γ} {ρ : Env} {rest : List Stmt} {m : W γ}
end
end PL

/-! The layer: x in a list of data of any depth. -/
namespace PL
open PySem PySem.Spec PyProof.Rows L2
section
variable {G : PenK} {X : Cx} {Wx : WX}
variable {γ : Type} {En : Enz γ} {ρ ρ' : Env} {rest : List Stmt} {m : W γ}
end
end PL

/-! Plain laws with objects: GenM S m c Q says that m, begun where S holds of the objects, ends under Q with S, after at most c draws. -/
namespace PL
open PySem PySem.Spec L2
def GenM {α : Type} (S : (Addr → Option Nd) → Prop) (m : W α) (c : Nat) (Q : α → Prop) : Prop := ∀ (n : Nt) (P : α → Nt → Prop) (PX : Exc → Nt → Prop), n.n + c ≤ drawMax → S n.μ → (∀ a (k : Nt), Q a → n.n ≤ k.n → k.n ≤ n.n + c → S k.μ → P a k) → m n P PX
section
variable {α β J γ : Type} {S : (Addr → Option Nd) → Prop}
theorem Gen.m {m : W α} {c : Nat} {Q : α → Prop} (h : Gen m c Q) : GenM S m c Q := fun n P PX hn hs k => h n P PX hn fun a j q h1 h2 => k a ⟨j, n.μ⟩ q h1 h2 hs
theorem GenM.ret {a : α} {Q : α → Prop} (h : Q a) : GenM S (PL.ret a) 0 Q := (Gen.ret h).m
theorem GenM.bind {m : W α} {f : α → W β} {c d : Nat} {R : α → Prop} {Q : β → Prop} (h : GenM S m c R) (hf : ∀ a, R a → GenM S (f a) d Q) : GenM S (PL.bnd m f) (c + d) Q := fun n P PX hn hs k =>
  h n _ PX (by omega) hs fun a j q h1 h2 hs2 => hf a q j P PX (by omega) hs2 fun b i r h3 h4 hs3 => k b i r (Nat.le_trans h1 h3) (by omega) hs3
theorem GenM.le {m : W α} {c d : Nat} {Q R : α → Prop} (h : GenM S m c Q) (hc : c ≤ d) (hq : ∀ a, Q a → R a) : GenM S m d R := fun n P PX hn hs k => h n P PX (by omega) hs fun a j q h1 h2 h3 => k a j (hq a q) h1 (by omega) h3
theorem GenM.up {m : W α} {c d : Nat} {Q : α → Prop} (h : GenM S m c Q) (hc : c ≤ d) : GenM S m d Q := h.le hc fun _ q => q
theorem GenM.to {m : W α} {c : Nat} {Q R : α → Prop} (h : GenM S m c Q) (hq : ∀ a, Q a → R a) : GenM S m c R := h.le (Nat.le_refl _) hq
theorem GenM.dr {b : Int} {f : Int → W β} {c : Nat} {Q : β → Prop} (h0 : 0 < b) (h1 : b < 1073741824) (k : ∀ r : Int, 0 ≤ r → r < b → GenM S (f r) c Q) : GenM S (PL.bnd (drw b) f) (1 + c) Q :=
  GenM.bind (R := fun r => 0 ≤ r ∧ r < b) (Gen.dr0 (c := 0) h0 h1 fun r a b => ⟨a, b⟩).m fun r ⟨a, b⟩ => k r a b
theorem GenM.cond {b : Bool} {m m' : W α} {c d : Nat} {Q : α → Prop} (h1 : b = true → GenM S m c Q) (h2 : b = false → GenM S m' d Q) : GenM S (if b = true then m else m') (Nat.max c d) Q := by
  cases b with
  | true => rw [if_pos rfl]; exact (h1 rfl).up (Nat.le_max_left _ _)
  | false => rw [if_neg (by decide)]; exact (h2 rfl).up (Nat.le_max_right _ _)
theorem GenM.room {xs : List D} {m : W α} {c : Nat} {Q : α → Prop} (h : xs.length < 1000000) (k : GenM S m c Q) : GenM S (roomL xs m) c Q := by rw [room_pos h]; exact k
theorem GenM.forI {bd : α → J → W (Step J γ)} {k : J → W γ} {c d N : Nat} {I : Nat → J → Prop} {Q : γ → Prop} : ∀ {xs : List α} {i : Nat} {j : J}, xs.length + i ≤ N → (∀ x ∈ xs, ∀ i j, i < N → I i j → GenM S (bd x j) c fun o => ∃ j', o = .go j' ∧ I (i + 1) j') → (∀ i j, i ≤ N → I i j → GenM S (k j) d Q) → I i j → GenM S (forT bd k xs j) (c * xs.length + d) Q
  | [], i, j, hn, hb, hk, h0 => (hk i j (by simpa using hn) h0).up (by omega)
  | x :: xs, i, j, hn, hb, hk, h0 => by
    have hn2 : xs.length + 1 + i ≤ N := hn
    refine (GenM.bind (hb x List.mem_cons_self i j (by omega) h0) (d := c * xs.length + d) fun o ⟨j', e, h1⟩ => ?_).up (by rw [List.length_cons, Nat.mul_add]; omega)
    subst e
    exact GenM.forI (by omega) (fun y hy => hb y (List.mem_cons_of_mem _ hy)) hk h1
end
end PL

/-! The layer: xs += e with lists, xs.insert(i, e). -/
namespace PL
open PySem PySem.Spec L2 PyProof.Rows
section
variable {G : PenK} {X : Cx} {Wx : WX} {γ : Type} {En : Enz γ} {ρ : Env} {rest : List Stmt} {m : W γ}
end
end PL

/-! Plain laws with one list of two numbers that is changed: GenR a m c x y Q tells what m makes of them. -/
namespace PL
open PySem PySem.Spec L2
def GenR {α : Type} (a : Addr) (m : W α) (c : Nat) (x y : Int) (Q : α → Int → Int → Prop) : Prop := ∀ (n : Nt) (P : α → Nt → Prop) (PX : Exc → Nt → Prop), n.n + c ≤ drawMax → n.μ a = some (.lst [.d (.int x), .d (.int y)]) → (∀ v (k : Nt) x' y', Q v x' y' → n.n ≤ k.n → k.n ≤ n.n + c → k.μ a = some (.lst [.d (.int x'), .d (.int y')]) → P v k) → m n P PX
section
variable {α β J γ : Type} {a : Addr} {x y : Int}
theorem Gen.r {m : W α} {c : Nat} {Q : α → Prop} (h : Gen m c Q) : GenR a m c x y (fun v x' y' => Q v ∧ x' = x ∧ y' = y) := fun n P PX hn hs k => h n P PX hn fun v j q h1 h2 => k v ⟨j, n.μ⟩ x y ⟨q, rfl, rfl⟩ h1 h2 hs
theorem GenR.ret {v : α} {Q : α → Int → Int → Prop} (h : Q v x y) : GenR a (PL.ret v) 0 x y Q := fun n P PX _ hs k => k v n x y h (Nat.le_refl _) (Nat.le_refl _) hs
theorem GenR.bind {m : W α} {f : α → W β} {c d : Nat} {R : α → Int → Int → Prop} {Q : β → Int → Int → Prop} (h : GenR a m c x y R) (hf : ∀ v x' y', R v x' y' → GenR a (f v) d x' y' Q) : GenR a (PL.bnd m f) (c + d) x y Q := fun n P PX hn hs k =>
  h n _ PX (by omega) hs fun v j x' y' q h1 h2 hs2 => hf v x' y' q j P PX (by omega) hs2 fun b i x2 y2 r h3 h4 hs3 => k b i x2 y2 r (Nat.le_trans h1 h3) (by omega) hs3
theorem GenR.le {m : W α} {c d : Nat} {Q R : α → Int → Int → Prop} (h : GenR a m c x y Q) (hc : c ≤ d) (hq : ∀ v x' y', Q v x' y' → R v x' y') : GenR a m d x y R := fun n P PX hn hs k => h n P PX (by omega) hs fun v j x' y' q h1 h2 h3 => k v j x' y' (hq v x' y' q) h1 (by omega) h3
theorem GenR.up {m : W α} {c d : Nat} {Q : α → Int → Int → Prop} (h : GenR a m c x y Q) (hc : c ≤ d) : GenR a m d x y Q := h.le hc fun _ _ _ q => q
theorem GenR.dr {b : Int} {f : Int → W β} {c : Nat} {Q : β → Int → Int → Prop} (h0 : 0 < b) (h1 : b < 1073741824) (k : ∀ r : Int, 0 ≤ r → r < b → GenR a (f r) c x y Q) : GenR a (PL.bnd (drw b) f) (1 + c) x y Q :=
  GenR.bind (Gen.r (Q := fun r => 0 ≤ r ∧ r < b) (Gen.dr0 (c := 0) h0 h1 fun r p q => ⟨p, q⟩)) fun r x' y' ⟨⟨p, q⟩, e1, e2⟩ => by
    subst e1 e2
    exact k r p q
theorem GenR.cond {b : Bool} {m m' : W α} {c d : Nat} {Q : α → Int → Int → Prop} (h1 : b = true → GenR a m c x y Q) (h2 : b = false → GenR a m' d x y Q) : GenR a (if b = true then m else m') (Nat.max c d) x y Q := by
  cases b with
  | true => rw [if_pos rfl]; exact (h1 rfl).up (Nat.le_max_left _ _)
  | false => rw [if_neg (by decide)]; exact (h2 rfl).up (Nat.le_max_right _ _)
theorem GenR.room {xs : List D} {m : W α} {c : Nat} {Q : α → Int → Int → Prop} (h : xs.length < 1000000) (k : GenR a m c x y Q) : GenR a (roomL xs m) c x y Q := by rw [room_pos h]; exact k
theorem GenR.forI {bd : α → J → W (Step J γ)} {k : J → W γ} {c d N : Nat} {I : Nat → J → Int → Int → Prop} {Q : γ → Int → Int → Prop} : ∀ {xs : List α} {i : Nat} {j : J} {x y : Int}, xs.length + i ≤ N → (∀ e ∈ xs, ∀ i j x y, i < N → I i j x y → GenR a (bd e j) c x y fun o x' y' => ∃ j', o = .go j' ∧ I (i + 1) j' x' y') → (∀ i j x y, i ≤ N → I i j x y → GenR a (k j) d x y Q) → I i j x y → GenR a (forT bd k xs j) (c * xs.length + d) x y Q
  | [], i, j, x, y, hn, hb, hk, h0 => (hk i j x y (by simpa using hn) h0).up (by omega)
  | e :: xs, i, j, x, y, hn, hb, hk, h0 => by
    have hn2 : xs.length + 1 + i ≤ N := hn
    refine (GenR.bind (hb e List.mem_cons_self i j x y (by omega) h0) (d := c * xs.length + d) fun o x' y' ⟨j', eo, h1⟩ => ?_).up (by rw [List.length_cons, Nat.mul_add]; omega)
    subst eo
    exact GenR.forI (by omega) (fun z hz => hb z (List.mem_cons_of_mem _ hz)) hk h1
theorem GenR.ix0 : GenR a (ixOb a (.int 0)) 0 x y (fun d x' y' => d = .int x ∧ x' = x ∧ y' = y) := fun n P PX _ hs k =>
  ⟨[.d (.int x), .d (.int y)], 0, .int x, by unfold lstM; rw [hs], rfl, atI_nat (j := 0) rfl, k _ n x y ⟨rfl, rfl, rfl⟩ (Nat.le_refl _) (Nat.le_refl _) hs⟩
theorem GenR.ix1 : GenR a (ixOb a (.int 1)) 0 x y (fun d x' y' => d = .int y ∧ x' = x ∧ y' = y) := fun n P PX _ hs k =>
  ⟨[.d (.int x), .d (.int y)], 1, .int y, by unfold lstM; rw [hs], rfl, atI_nat (j := 1) rfl, k _ n x y ⟨rfl, rfl, rfl⟩ (Nat.le_refl _) (Nat.le_refl _) hs⟩
theorem GenR.mk {f : Addr → W α} {c : Nat} {Q : α → Prop} (h : ∀ a, GenR a (f a) c x y (fun v _ _ => Q v)) : GenM (fun _ => True) (bnd (mkL [.int x, .int y]) f) c Q := fun n P PX hn _ k =>
  ⟨rfl, fun a _ => h a ⟨n.n, setM n.μ a (.lst [.d (.int x), .d (.int y)])⟩ P PX hn setM_same fun v j _ _ q h1 h2 _ => k v j q h1 h2 trivial⟩
end
end PL

/-! Instances of own classes that stay as they were made: made, read, called; methods are defs over data. -/
namespace PL
open PySem PySem.Spec L2 PyProof.Rows
section
variable {G : PenK} {X : Cx} {Wx : WX}
/-! ### how a method is known -/
structure KnM (G : PenK) (X : Cx) (k : Nat) (f : Addr) (fd : FuncData) (ps : List Str) (m : List SV → W D) : Prop where
  F : FnG X.prog X.w X.K X.mg X.base k f fd ps (spM G X.K X.mg ps.length m)
  bd : Binds X.K fd ps []
theorem InsC.same {K : PySem.W.Frag} {c f : Str} {C C' : Addr} (h : InsC K c f C) (h' : InsC K c f C') : C' = C := by
  have := h'.at_.symm.trans h.at_
  cases this
  rfl
end
/-! ### an instance is made -/
/-- what an __init__ promises: self gets its one field -/
def spI (G : PenK) (K : PySem.W.Frag) (mg : Str → Option Value) (ps : Nat) (f : Str) (m : List SV → W D) : Sp := fun vs H Q E =>
  ∃ (x C dx : Addr) (ws : List V) (S : Addr → Prop) (pen : Option (Addr × Addr)) (args : List SV) (n : Nt) (P : D → Nt → Prop) (PX : Exc → Nt → Prop),
    vs = .ref x :: ws ∧ H x = some (.ins C dx []) ∧ Cls K C ∧ NoAttr K C f ∧ n.μ x = none ∧
    args.length = ps ∧ (∀ a, S a → H a ≠ none) ∧ (∀ p, pen = some p → G.inv H p.1 p.2 n.n ∧ ¬ S p.1 ∧ ¬ S p.2) ∧ (∀ q ∈ G.tab, ¬ S q.1 ∧ TabI S H q.1 q.2) ∧ MuOk G K S H pen n ∧ ArgsOk K S H pen args ws ∧ m args n P PX ∧
    (∀ d k v S' H', P d k → After G K S S' pen n H H' k → Rep K S' H' d v → Q .non (upd H' x (.ins C dx [(f, v)]))) ∧ ∀ x k S' H' cls dd, PX x k → After G K S S' pen n H H' k → RepX K mg S' H' x cls dd → E cls dd H'
section
variable {G : PenK} {P : Program} {w : World} {K : PySem.W.Frag} {mg : Str → Option Value} {base : Heap}
/-- a def whose parameters may have defaults -/
structure FunI (K : PySem.W.Frag) (x qual : Str) (st : Stmt) (f : Addr) (fd : FuncData) : Prop where
  ex : ∃ (oc : Value) (od : Option Addr) (dV kV doc pm : Value) (an : Option Addr) (cdv ct : Value) (osl : Array (Option Value)),
    fd = PySem.W.fnOf x qual (defArgs st) (defBody st) (defScope st) dV kV doc pm an cdv ct ∧ K.lookup f = some ⟨oc, od, .func fd, osl⟩ ∧ PySem.W.codeIn K cdv qual = true
end
section
variable {G : PenK} {X : Cx} {Wx : WX}
/-- how a class is known whose instances are made -/
structure KnI (G : PenK) (X : Cx) (k : Nat) (C fI : Addr) (fd : FuncData) (sn : Str) (ps : List Str) (cn f : Str) (m : List SV → W D) : Prop where
  F : FnG X.prog X.w X.K X.mg X.base k fI fd (sn :: ps) (spI G X.K X.mg ps.length f m)
  M : Mk X.K C fI
  ic : InsC X.K cn f C
  bd : Binds X.K fd (sn :: ps) []
end
end PL

/-! What the kernel reads of a class; xs.pop(i) as a statement; xs = xs + ys; for i, (a, b) in enumerate(..). -/
namespace PL
open PySem PySem.Spec L2 PyProof.Rows
section
variable {K : PySem.W.Frag} {C p g fI : Addr} {c f mn : Str}
end
section
variable {G : PenK} {X : Cx} {Wx : WX}
/-- xs + e, xs one's own -/
theorem o_catOwn {x : Str} {px pos : Pos} {b : Expr} {gb : Env → W D} (i : Nat) (hb : E G X Wx b gb) (hN : X.N[i]? = some x := by rfl) (hv : Vis X.env.scope x := by first | exact Or.inl rfl | exact Or.inr (Or.inl rfl) | exact Or.inr (Or.inr rfl)) (hd : (x == ("__debug__" : Str)) = false := by decide) (hcd : (x == ("__classdict__" : Str)) = false := by decide) :
    EO G X Wx (.BinOp (.Name x px) .Add b pos) (fun ρ => bnd (nmO ρ i) fun xs => bnd (gb ρ) fun y => catD (.lst xs) y) :=
  weakE (pe_op op_cat (pe_var hN hv hd hcd) hb) fun σ H Q ⟨c, ρ, n, P, PX, I, q, hg, hx⟩ => by
    obtain ⟨xs, e1, q⟩ := nmO_inv q
    obtain ⟨a, vs, e2, e3, z, r⟩ := I.slots i _ e1
    refine ⟨.ref a, slot_some e2, tE.bnd (f := fun y => catD (.lst xs) y) I q hx fun d k v S' H' p g I' hx' r' => ?_⟩
    obtain ⟨a', vs', e4, e5, z3, r2⟩ := I'.slots i _ e1
    rw [e2] at e4
    cases e4
    cases d with
    | lst ys =>
      obtain ⟨zz, p⟩ := p
      obtain ⟨b, ws, rfl, rb, z2, q2⟩ := r'
      have l1 := r2.len
      have l2 := q2.len
      exact ⟨a, b, vs', ws, rfl, rfl, e5, rb.2, by omega, fun l hl => (hg.grow g).new p I' hl (by rw [List.length_append]; exact zz) (Reps.app r2 q2)⟩
    | _ => exact p.elim
section
variable {γ : Type} {En : Enz γ} {ρ : Env} {rest : List Stmt}
end
end
section
variable {K : PySem.W.Frag}
end
section
variable {G : PenK} {X : Cx} {Wx : WX} {γ : Type} {En : Enz γ} {ρ : Env} {rest : List Stmt}
end
/-! ### constants of the module: tuples of tuples -/
end PL

/-! The source [cells, turn, rest] with tables and changing objects; what a law wants of its source. -/
namespace PL
open PySem PySem.Spec L2
/-- the state of the source behind a change of its list alone -/
theorem After.drawW {S : Addr → Prop} {H H2 : Hp} {a b : Addr} {cs : List Int} {t g : Int} {k : Nat} (hne : a ≠ b) (dom : ∀ x, S x → H x ≠ none) (ha : H a ≠ none) (nSa : ¬ S a) (nSb : ¬ S b) (hb : H b = some (.lst (cs.map V.int))) {T : List (Addr × Str)} {mg : Str → Option Value} (htb : ∀ q ∈ T, ¬ S q.1 ∧ TabI S H q.1 q.2) (haL : ∃ xs, H a = some (.lst xs)) {K : PySem.W.Frag} {n : Nt} {bb : Bool} (hm : MuOk ((penG.wt T mg).wc bb) K S H (some (a, b)) n)
    (sm : ∀ x o, x ≠ a → H x = some o → H2 x = some o) (h2 : H2 a = some (.lst [.ref b, .int t, .int g])) (h3 : cs.length ≤ 63) (ht : 0 ≤ t) (hk : t ≤ k) (hg : 0 ≤ g) : After ((penG.wt T mg).wc bb) K S S (some (a, b)) n H H2 ⟨k, n.μ⟩ := by
  have eqS : ∀ x, S x → H2 x = H x := fun x hx => by
    cases e : H x with
    | none => exact absurd e (dom x hx)
    | some o => exact sm x o (fun z => nSa (z ▸ hx)) e
  refine ⟨⟨fun _ h => h, eqS⟩, fun x hx => by rw [eqS x hx]; exact dom x hx, fun x hx => .inl hx, fun x o e hp _ _ => sm x o (hp (a, b) rfl).1 e, fun q hq => TabI.grow ⟨fun _ h => h, eqS⟩ (tab_eq sm (htb q hq).2 haL) (htb q hq).2, fun p e => ?_, fun x nd e => ?_, fun _ h => h, hm.2⟩
  · cases e
    exact ⟨⟨hne, cs, t, g, h2, sm b _ (Ne.symm hne) hb, h3, ht, hk, hg⟩, nSa, nSb⟩
  · obtain ⟨m1, m2, m3, m4⟩ := hm.1 x nd e
    obtain ⟨o, eo⟩ := Option.ne_none_iff_exists'.mp m1.there
    exact ⟨m1.grow ⟨fun _ h => h, eqS⟩ ((sm x o (m3 (a, b) rfl).1 eo).trans eo.symm), m2, .inl (by rw [e]; exact fun z => nomatch z)⟩
end PL

/-! Texts: split, upper, int(text), str(x). try: v = e. -/
namespace PL
open PySem PySem.Spec PyProof.Rows L2
theorem split_part {a b s : Str} (h : s ∈ Txt.split a b) : s.length ≤ a.length := by
  unfold Txt.split at h
  split at h
  · rw [List.mem_singleton.mp h]; exact Nat.le_refl _
  · split at h
    · rw [List.mem_singleton.mp h]; exact Nat.le_refl _
    · unfold Builtin.Str.partsBetween at h
      obtain ⟨p, _, e⟩ := List.mem_map.mp h
      rw [← e]
      exact strSub_length_le ..
def splitW (x y : D) : W (List D) := match x, y with
  | .str a, .str b => grd ((b.length == 0) = false ∧ a.length + 2 ≤ sizeLine) (ret ((Txt.split a b).map D.str))
  | _, _ => stuck
def upperD (x : D) : W D := match x with
  | .str a => grd (a.length ≤ 5592405) (ret (.str (Txt.upper a)))
  | _ => stuck
def intTW (x : D) : W D := match x with
  | .int i => ret (.int i)
  | .str a => (match PySem.intText? a with
    | some n => grd (a.length ≤ 640) (ret (.int n))
    | none => stuck)
  | _ => stuck
def strOfW (x : D) : W D := match x with
  | .str a => ret (.str a)
  | .int i => grd (i.natAbs.log2 < 1920 ∧ (toString i : Str).length ≤ sizeLine) (ret (.str (toString i)))
  | _ => stuck
section
variable {G : PenK} {X : Cx} {Wx : WX}
/-- x.split(sep) -/
theorem o_split {o e : Expr} {apos pos : Pos} {go ge : Env → W D} (ho : E G X Wx o go) (he : E G X Wx e ge) (hs : starEach [e] X.env = [(false, eval e X.env)] := by rfl) (hbase : attributeBase o "split" X.env (eval o X.env) = eval o X.env := by rfl) (hline : (apos.endLine == pos.line) = true := by rfl) :
    EO G X Wx (.Call (.Attribute o "split" apos) [e] [] pos) (fun ρ => bnd (go ρ) fun x => onStr x (bnd (ge ρ) fun y => splitW x y)) :=
  weakE (pe_split ho he hs hbase hline) fun σ H Q ⟨c, ρ, n, P, PX, I, q, hg, hx⟩ => tE.bnd I q hx fun d k u S' H' p g I' hx' r => by
    cases d with
    | str a =>
      obtain ⟨rfl, hz⟩ := r
      refine ⟨⟨a, rfl⟩, tE.bnd (f := fun y => splitW (.str a) y) I' p hx' fun d2 k2 u2 S2 H2 p2 g2 I2 hx2 r2 => ?_⟩
      cases d2 with
      | str b =>
        obtain ⟨rfl, hz2⟩ := r2
        obtain ⟨⟨h1, h2⟩, p3⟩ := p2
        refine ⟨a, b, rfl, rfl, h1, h2, fun l hl => (hg.grow (g.trans g2)).new p3 I2 hl ?_ (reps_strs fun y hy => Nat.le_trans (split_part hy) hz)⟩
        rw [List.length_map]
        exact Nat.le_trans (PyProof.Rows.split_le a b) h2
      | _ => exact p2.elim
    | _ => exact p.elim
/-- x.upper() -/
theorem e_upper {o : Expr} {apos pos : Pos} {go : Env → W D} (ho : E G X Wx o go) (hbase : attributeBase o "upper" X.env (eval o X.env) = eval o X.env := by rfl) (hline : (apos.endLine == pos.line) = true := by rfl) :
    E G X Wx (.Call (.Attribute o "upper" apos) [] [] pos) (fun ρ => bnd (go ρ) upperD) :=
  weakE (pe_upper ho hbase hline) fun σ H Q ⟨c, ρ, n, P, PX, I, q, hg, hx⟩ => tE.bnd (f := upperD) I q hx fun d k u S' H' p g I' hx' r => by
    cases d with
    | str a =>
      obtain ⟨rfl, hz⟩ := r
      obtain ⟨h1, p⟩ := p
      refine ⟨⟨a, rfl⟩, a, rfl, rfl, h1, (hg.grow g).at (d := .str (Txt.upper a)) p I' ⟨rfl, ?_⟩⟩
      have := PyProof.Rows.len_upper a
      rw [sizeLine_eq]
      omega
    | _ => exact p.elim
/-- int(x), x a text or a number -/
theorem e_intT {p pos : Pos} {e : Expr} {g : Env → W D} (hm : X.mg "int" = none) (h : E G X Wx e g) (hg : Gl X "int" := by rfl) (he : starEach [e] X.env = (false, eval e X.env) :: starEach [] X.env := by rfl) :
    E G X Wx (.Call (.Name "int" p) [e] [] pos) (fun ρ => bnd (g ρ) intTW) :=
  e_t1 hm PyProof.Rows.boot_int (call_int1.or call_int_str) (r := fun x H Q => (∃ i, x = .int i ∧ Q (.int i) H) ∨ ∃ a n, x = .str a ∧ PySem.intText? a = some n ∧ a.length ≤ 640 ∧ Q (.int n) H) (by
    intro c σ ρ H n P PX d v Q I r q hg hx
    cases d with
    | int i => cases r; exact .inl ⟨i, rfl, hg.at (d := .int i) q I rfl⟩
    | str a =>
      obtain ⟨rfl, hz⟩ := r
      unfold intTW at q
      cases hm2 : PySem.intText? a with
      | some m =>
        simp only [hm2] at q
        obtain ⟨h1, q⟩ := q
        exact .inr ⟨a, m, rfl, hm2, h1, hg.at (d := .int m) q I rfl⟩
      | none =>
        simp only [hm2] at q
        exact q.elim
    | _ => exact q.elim) (fun x H Q h => h.elim (fun ⟨i, e, h⟩ => .inl (.inl ⟨i, by rw [e], h⟩)) fun ⟨a, n, e, h⟩ => .inr ⟨a, n, by rw [e], h⟩) h hg (by decide) (by decide) he (by rfl)
/-- str(x) -/
theorem e_strOf {p pos : Pos} {e : Expr} {g : Env → W D} (hm : X.mg "str" = none) (h : E G X Wx e g) (hg : Gl X "str" := by rfl) (he : starEach [e] X.env = (false, eval e X.env) :: starEach [] X.env := by rfl) :
    E G X Wx (.Call (.Name "str" p) [e] [] pos) (fun ρ => bnd (g ρ) strOfW) :=
  e_t1 hm PyProof.Rows.boot_str (SkE.call_str_str.or call_str_int) (r := fun x H Q => (∃ a, x = .str a ∧ Q (.str a) H) ∨ ∃ i, x = .int i ∧ i.natAbs.log2 < 1920 ∧ Q (.str (toString i)) H) (by
    intro c σ ρ H n P PX d v Q I r q hg hx
    cases d with
    | str a =>
      obtain ⟨rfl, hz⟩ := r
      exact .inl ⟨a, rfl, hg.at (d := .str a) q I ⟨rfl, hz⟩⟩
    | int i =>
      cases r
      obtain ⟨⟨h1, h2⟩, q⟩ := q
      exact .inr ⟨i, rfl, h1, hg.at (d := .str (toString i)) q I ⟨rfl, h2⟩⟩
    | _ => exact q.elim) (fun x H Q h => h.elim (fun ⟨i, e, h⟩ => .inl ⟨i, by rw [e], h⟩) fun ⟨a, e, h1, h⟩ => .inr ⟨a, by rw [e], h1, h⟩) h hg (by decide) (by decide) he (by rfl)
end
section
variable {G : PenK} {X : Cx} {Wx : WX} {γ : Type} {En : Enz γ} {ρ : Env} {rest : List Stmt} {m : W γ}
/-- try: v = e / except (X, Y, ..) as n: cn = n -/
theorem sg_tryAsg {e : Expr} {n cn v : Str} {xs : List Nm} {i i2 j kx : Nat} {pv pr tp p1 p2 p3 pos pos' : Pos} {g : Env → W D} {m0 : W D} {r : D → W γ} {hd : Exc → W γ} {emb : Exc → Env} {ok : D → Env} {t : ETab} {cs : List (Str × Value)} (T : ErrI X.K X.mg t cs) (hG : G.mg = X.mg)
    (hs : X.stack = X.env :: X.outer) (hf : X.env.frame = some X.env.locals) (hN : X.N.Nodup) (hi : X.N[i]? = some n) (hln : X.env.kindOf n = some .local) (hi2 : X.N[i2]? = some cn) (hl2 : X.env.kindOf cn = some .local) (hj : X.N[j]? = some v) (hlv : X.env.scope.names.lookup v = some .local) (hz : xs.length ≤ sizeLine) (hc : ∀ p ∈ xs, Names X p.1 p.2.2)
    (hxs : ∀ p ∈ xs.map (fun p => (p.1, p.2.2)), p ∈ cs) (hdn : (n == ("__debug__" : Str)) = false) (hcn : (n == ("__classdict__" : Str)) = false)
    (hE : ∀ (W : WX) (pn : List (Addr × Obj)) (xe : Value → Shared → Prop), Takes (X.tr pn xe) W → PassesOwn (model X.prog X.w) X.A X.env xe → E G (X.tr pn xe) W e g) (hg : g ρ = m0)
    (hρv : ∀ d, ρ.set j (.d d) = ok d) (hv : ∀ d, SG G X Wx rest (ok d) En (r d))
    (hρ : ∀ x, ((ρ.set i .un).set i2 (.exc x)).set i .un = emb x) (hh : ∀ x, SG G X Wx rest (emb x) En (hd x))
    (hsw : swapsWith e (some (.Name v pv)) pr.line X.env = pure false := by rfl) :
    SG G X Wx (.Try [.Assign [.Name v pv] e pr] [.ExceptHandler (some (.Tuple (namesE xs) kx tp)) (some n) [.Assign [.Name cn p1] (.Name n p2) p3] pos'] [] [] pos :: rest) ρ En
      (tryW m0 r fun x => onB (cat t (namesS xs) x) (hd x)) := by
  refine weakSs (pss_cons (ps_try_keep hs hf hN hi hln hi2 hl2 hz hc hdn hcn (tb := fun W Dn σ H => tE G X W g σ H fun v H' => Dn.nx (σ.set j (some v)) H') fun W pn xe tk hp => pss_one (ps_set (X := X.tr pn xe) (i := j) hN hj (.inl hlv) (show PE (X.tr pn xe) e (tE G (X.tr pn xe) W g) from hE W pn xe tk hp) hsw (.inr hlv)))
    (pss_un (t := fun z : { z : Env × W γ // SG G X Wx rest z.1 En z.2 } => tG G X Wx z.1.1 En z.1.2) fun z => z.2)) fun Dn σ H ⟨c, n, P, PX, I, q, hgl, hx⟩ => ?_
  subst hg
  refine ⟨c, ρ, n, fun d j => r d j P PX, fun x j => (onB (cat t (namesS xs) x) (hd x) : W γ) j P PX, I, q, fun d k v S' H' p g I' rv => ?_, fun x k S' H' cls dd p g I' rx => ?_⟩
  · have I3 := I'.set (i := j) rv
    rw [hρv d] at I3
    exact ⟨⟨(ok d, r d), hv d⟩, _, k, P, PX, I3, p, hgl.grow g, hx.grow g⟩
  obtain ⟨hk, hp⟩ := onB_inv (show onB (cat t (namesS xs) x) (hd x) k P PX from p)
  unfold cat at hk
  rw [Bool.and_eq_true] at hk
  obtain ⟨A, hA, ec, _⟩ := id rx
  subst ec
  refine ⟨?_, fun a ha => ?_⟩
  · have := exmAny_of (f := isS t x.1) (xs.map fun p => (p.1, p.2.2)) fun p hp => (T.is x.1 A hA hk.1 p (hxs p hp)).2
    rw [List.map_map, List.map_map] at this
    rw [show xs.map (·.2.2) = xs.map ((·.2) ∘ fun p => (p.1, p.2.2)) from rfl, this, show xs.map ((·.1) ∘ fun p => (p.1, p.2.2)) = namesS xs from rfl, hk.2]
  · obtain ⟨I2, g2⟩ := I'.laid (o := ErrO (.ref A) dd a) ha
    have I3 := ((I2.setS (i := i) (sv := .un) (o := some (.ref a)) rfl True.intro).setS (i := i2) (sv := .exc x) (o := some (.ref a)) rfl ⟨a, .ref A, dd, rfl, .inr rfl, upd_same, by rw [hG]; exact rx.grow g2⟩).setS (i := i) (sv := .un) (o := none) rfl True.intro
    rw [hρ x] at I3
    exact ⟨⟨(emb x, hd x), hh x⟩, _, k, P, PX, I3, hp, hgl.grow (g.trans g2), hx.grow (g.trans g2)⟩
/-- x is None, x an error that was kept -/
theorem t_excN {x : Str} {px pn pos : Pos} {kc} (hG : G.mg = X.mg) (i : Nat) (hN : X.N[i]? = some x := by rfl) (hv : Vis X.env.scope x := by first | exact Or.inl rfl | exact Or.inr (Or.inl rfl) | exact Or.inr (Or.inr rfl)) (hd : (x == ("__debug__" : Str)) = false := by decide)
    (hcd : (x == ("__classdict__" : Str)) = false := by decide) : T G X Wx (.Compare (.Name x px) [.Is] [.Constant .none kc pn] pos) (fun ρ => excAt ρ i fun _ => ret false) :=
  weakT (pt_cmpR op_isN (pe_var hN hv hd hcd) pe_non (by rfl)) fun σ H Q ⟨c, ρ, n, P, PX, I, q, hg, hx⟩ => by
    obtain ⟨e, e1, q⟩ := excAt_inv (show excAt ρ i _ n P PX from q)
    obtain ⟨a, D, dd, es, xa, hm', ha, rx⟩ := I.exc e1
    exact ⟨.ref a, slot_some es, rfl, _, rfl, hg false n c.S H q .refl I⟩
end
end PL

/-! Texts parted; x, *ys = a list; enumerate(list, start=k). -/
namespace PL
open PySem PySem.Spec PyProof.Rows L2
section
variable {X : Cx} {pins : List (Addr × Obj)} {σ : L2.St} {H : Hp} {s : Shared}
theorem newTk {ys : List V} {its : List Value} {Q : VK} {n k : Nat} (I : Inv X pins σ H s) (r : Vals ys its) (hz : ys.length ≤ sizeLine) (q : NewT H ys Q) : EP X pins σ Q (.ref s.heap.objs.size) { s with toks := k, heap := s.heap.push { cls := .type "tuple", data := .seq its.toArray n } } :=
  ⟨.ref s.heap.objs.size, _, I.laid (t' := k) (o := .frz { cls := .type "tuple", data := .seq its.toArray n } (.tup ys)) (fun b u e => Heap.get?_push_of_some _ e) (Nat.le_refl _) ⟨Heap.get?_push_size _ rfl, hz, its, r, ⟨_, Heap.get?_push_size _ rfl, rfl, _, rfl⟩⟩, rfl, q _ _ (I.hok.fresh (Nat.le_refl _)) rfl⟩
/-- x.partition(sep), the new tuple told by its object -/
theorem mt_partZ : MtR X "str.partition" (fun x xs H Q => ∃ a b, x = .str a ∧ xs = [.str b] ∧ (b.length == 0) = false ∧ a.length ≤ sizeLine ∧ NewT H [.str (Txt.partition a b).1, .str (Txt.partition a b).2.1, .str (Txt.partition a b).2.2] Q) := by
  intro pins s σ H x xs v us Q I rx rs h
  obtain ⟨a, b, rfl, rfl, hb, hz, h⟩ := h
  obtain ⟨t, rfl⟩ := rx
  cases rs with
  | cons r1 rs =>
    cases rs
    obtain ⟨u, rfl⟩ := r1
    refine call_meets F.slot_str_partition (typeIs_str _ _ _) F.entry_str_partition (F.args_str_partition_2 _ _) (meets_str_partition a b t u hb hz) ?_
    unfold Txt.partition at h
    revert h
    have h3 : ∀ x y z : V, [x, y, z].length ≤ sizeLine := fun _ _ _ => by rw [sizeLine_eq]; exact Nat.le_of_ble_eq_true rfl
    cases Builtin.Str.occurrences a b 0 a.length 1 with
    | nil => intro h; exact newTk (ys := [.str _, .str _, .str _]) (its := [_, _, _]) I (.cons ⟨_, rfl⟩ (.cons ⟨_, rfl⟩ (.cons ⟨_, rfl⟩ .nil))) (h3 _ _ _) h
    | cons i r => intro h; exact newTk (ys := [.str _, .str _, .str _]) (its := [_, _, _]) I (.cons ⟨_, rfl⟩ (.cons ⟨_, rfl⟩ (.cons ⟨_, rfl⟩ .nil))) (h3 _ _ _) h
end
theorem part_len (a b : Str) : (Txt.partition a b).1.length ≤ a.length ∧ (Txt.partition a b).2.1.length ≤ b.length ∧ (Txt.partition a b).2.2.length ≤ a.length := by
  unfold Txt.partition
  cases Builtin.Str.occurrences a b 0 a.length 1 with
  | nil => exact ⟨Nat.le_refl _, Nat.zero_le _, Nat.zero_le _⟩
  | cons i r => exact ⟨strSub_length_le .., Nat.le_refl _, strSub_length_le ..⟩
def partW (x y : D) : W D := match x, y with
  | .str a, .str b => grd ((b.length == 0) = false) (ret (.tup [.str (Txt.partition a b).1, .str (Txt.partition a b).2.1, .str (Txt.partition a b).2.2]))
  | _, _ => stuck
section
variable {G : PenK} {X : Cx} {Wx : WX}
theorem e_part {o e : Expr} {apos pos : Pos} {go ge : Env → W D} (ho : E G X Wx o go) (he : E G X Wx e ge) (hs : starEach [e] X.env = [(false, eval e X.env)] := by rfl) (hbase : attributeBase o "partition" X.env (eval o X.env) = eval o X.env := by rfl) (hline : (apos.endLine == pos.line) = true := by rfl) :
    E G X Wx (.Call (.Attribute o "partition" apos) [e] [] pos) (fun ρ => bnd (go ρ) fun x => onStr x (bnd (ge ρ) fun y => partW x y)) :=
  weakE (pe_m1 F.slot_str_partition F.type_str_partition mt_partZ ho he hs hbase hline) fun σ H Q ⟨c, ρ, n, P, PX, I, q, hg, hx⟩ => tE.bnd I q hx fun d k u S' H' p g I' hx' r => by
    cases d with
    | str a =>
      obtain ⟨rfl, hz⟩ := r
      refine ⟨⟨a, rfl⟩, tE.bnd (f := fun y => partW (.str a) y) I' p hx' fun d2 k2 u2 S2 H2 p2 g2 I2 hx2 r2 => ?_⟩
      cases d2 with
      | str b =>
        obtain ⟨rfl, hz2⟩ := r2
        obtain ⟨h1, p3⟩ := p2
        obtain ⟨l1, l2, l3⟩ := part_len a b
        refine ⟨a, b, rfl, rfl, h1, hz, fun l ob hl hd => (hg.grow (g.trans g2)).new p3 I2 hl fun g3 => ⟨l, _, rfl, .inl ⟨.inr rfl, ob, upd_same, hd⟩, (by rw [sizeLine_eq]; exact Nat.le_of_ble_eq_true rfl), ?_⟩⟩
        exact Reps.cons (x := .str _) ⟨rfl, Nat.le_trans l1 hz⟩ (Reps.cons (x := .str _) ⟨rfl, Nat.le_trans l2 hz2⟩ (Reps.cons (x := .str _) ⟨rfl, Nat.le_trans l3 hz⟩ Reps.nil))
      | _ => exact p2.elim
    | _ => exact p.elim
end
/-! ### x, *ys = a list -/
theorem items_star {prog : Program} {w : World} {A : Around} {E : Value → Shared → Prop} {s : Shared} {l : Addr} {items : Array Value} {u : Value} {r : List Value} {Q : List Value → Shared → Prop} (hh : A.handled = none) (hl : s.heap.IsList l items) (hz : items.size ≤ sizeLine) (hit : items.toList = u :: r)
    (h : ∀ (h' : Heap) (tk : Nat), (∀ b o, s.heap.get? b = some o → h'.get? b = some o) → Q [u, .ref h'.objs.size] { s with heap := h'.push { cls := .type "list", data := .seq r.toArray }, toks := tk }) : wpAny (model prog w) A (unpackItems (.ref l) 2 (some 1)) Q E s := by
  have hlt : l ≠ s.heap.objs.size := by obtain ⟨o, ho, _⟩ := hl; exact Nat.ne_of_lt (Heap.lt_size ho)
  have hsz : items.size = r.length + 1 := by rw [← Array.length_toList, hit]; rfl
  unfold unpackItems
  refine wpAny_bind ?_
  unfold notIterableAtAll
  refine wpAny_bind (wpAny_specialOf hl.typeIs slot_list_iter.lookup ?_)
  refine wpAny_pure ?_
  simp only [Bool.false_eq_true, if_false]
  refine wpAny_bind (wpAny_holding (wpAny_pyIter_list hl ?_))
  refine wpAny_bind (wpAny_holding (PySem.W.kun_draw hlt 1 0 _ _ ⟨_, Heap.get?_push_size _ rfl, rfl, rfl⟩ (hl.push _) (by omega) fun h₁ hit₁ hs₁ => ?_))
  have hl₁ : h₁.IsList l items := (hl.push _).extBut hs₁.extBut hlt
  rw [Nat.zero_add] at hit₁
  have hit₁' := hit₁
  obtain ⟨oi, hoi, _⟩ := hit₁'
  have hl₁' := hl₁
  obtain ⟨ol, hol, _⟩ := hl₁'
  rw [List.drop_zero, hit]
  show wpAny _ _ (if [u].length < 1 then _ else _) _ _ _
  rw [if_neg (by simp)]
  refine wpAny_bind (wpAny_holding (PySem.W.kun_collect (s := { s with heap := h₁ }) (T := "list_iterator") (.inr (.inr (.inl rfl))) (Walks.list (A := A.in1) hh s.heap.objs.size l hlt items) (fun j u st => st.1.typeIs) (k := 1) (by omega) ⟨hit₁, hl₁⟩ (Heap.lt_size hoi) (Heap.lt_size hol) (fun h₂ tk hk => ?_) hz))
  rw [hit]
  show wpAny _ _ (if r.length < 0 then _ else _) _ _ _
  rw [if_neg (Nat.not_lt_zero _)]
  show wpAny _ _ (newList (r.take (r.length - 0)) >>= fun d => pure ([u] ++ [d] ++ r.drop (r.length - 0))) _ _ _
  rw [Nat.sub_zero, List.take_length, List.drop_length]
  refine wpAny_bind (wpAny_newList (wpAny_pure ?_) (by omega))
  exact h h₂ tk fun b o e => hk b o (Nat.ne_of_lt (Heap.lt_size e)) (hs₁.extBut b o (Nat.ne_of_lt (Heap.lt_size e)) (Heap.get?_push_of_some _ e))
def gStar (K : PySem.W.Frag) (i j : Nat) : TG := fun v σ H Q => ∃ a x r, v = .ref a ∧ SqL K H a (x :: r) ∧ ∀ l, H l = none → Q ((σ.set i (some x)).set j (some (.ref l))) (upd H l (.lst r))
theorem pg_star {X : Cx} {i j k : Nat} {x y : Str} {px py sp pos : Pos} (hc : X.calm = true) (hN : X.N.Nodup) (hi : X.N[i]? = some x) (hx : Loc X.env.scope x) (hj : X.N[j]? = some y) (hy : Loc X.env.scope y) (hfx : X.fn x = true ∨ X.env.scope.names.lookup x = some .local) (hfy : X.fn y = true ∨ X.env.scope.names.lookup y = some .local) :
    PG X (.Tuple [.Name x px, .Starred (.Name y py) sp] k pos) (gStar X.K i j) := by
  refine ⟨fun pins s σ H v u Q I r hw => ?_⟩
  obtain ⟨a, x0, xr, rfl, hq, hw⟩ := hw
  cases r
  obtain ⟨its, rv, pl, hz⟩ := I.list hq
  cases rv with
  | @cons _ u0 _ ur r0 rr =>
    rw [PyProof.Rows.assign_Tuple]
    refine wpAny_bind (wpAny_standAt ?_)
    unfold unpack
    show wpAny _ _ (holding [Value.ref a] (unpackItems (.ref a) 2 (some 1)) >>= fun vs => assignInOrder [assign (.Name x px) X.env, assign (.Name y py) X.env] vs) _ _ _
    have hlen := rr.length
    have hl' : s.heap.IsList a (u0 :: ur).toArray := pl.isList
    refine wpAny_bind (wpAny_holding (items_star (I.ok.hd hc) hl' (by have hz := hz; rw [List.length_cons, hlen] at hz; simpa using hz) (u := u0) (r := ur) rfl fun h' tk kp => ?_))
    have I1 : Inv X pins σ H { s with heap := h', toks := tk } := I.kept (t' := tk) kp
    have fr : H h'.objs.size = none := I1.hok.fresh (Nat.le_refl _)
    have I2 : Inv X pins σ (upd H h'.objs.size (.lst xr)) { s with heap := h'.push { cls := .type "list", data := .seq ur.toArray }, toks := tk } :=
      I1.laid (t' := tk) (o := .lst xr) (fun b u e => Heap.get?_push_of_some _ e) (Nat.le_refl _) ⟨(by rw [List.length_cons] at hz; omega), ur, _, rr, Heap.get?_push_size _ rfl⟩
    refine assignInOrder_cons (thn ((pg_name (pos := px) hN hi hx hfx).run pins _ σ _ x0 u0 _ I2 r0 (show gName i x0 σ _ (fun σ' H' => σ' = σ.set i (some x0) ∧ H' = upd H h'.objs.size (.lst xr)) from ⟨rfl, rfl⟩)) fun _ s1 ⟨σ1, H1, I3, e1, e2⟩ => ?_)
    subst e1 e2
    refine assignInOrder_cons (thn ((pg_name (pos := py) hN hj hy hfy).run pins s1 _ _ (.ref h'.objs.size) (.ref h'.objs.size) _ I3 rfl (show gName j _ _ _ (fun σ' H' => σ' = (σ.set i (some x0)).set j (some (.ref h'.objs.size)) ∧ H' = upd H h'.objs.size (.lst xr)) from ⟨rfl, rfl⟩)) fun _ s2 ⟨σ2, H2, I4, e1, e2⟩ => ?_)
    subst e1 e2
    exact assignInOrder_nil ⟨_, _, I4, hw _ fr⟩
def starW (x : D) : W (D × List D) := match x with
  | .lst (y :: ys) => ret (y, ys)
  | _ => stuck
section
variable {G : PenK} {X : Cx} {Wx : WX} {γ : Type} {En : Enz γ} {ρ : Env} {rest : List Stmt} {m : W γ}
theorem sg_star {e : Expr} {x y : Str} {i j k : Nat} {px py sp tp pos : Pos} {g : Env → W D} {m0 : W D} {kk : D × List D → W γ} {ρ' : D × List D → Env} (hc : X.calm = true) (hN : X.N.Nodup) (hi : X.N[i]? = some x) (hx : X.env.scope.names.lookup x = some .local) (hj : X.N[j]? = some y) (hy : X.env.scope.names.lookup y = some .local)
    (h : E G X Wx e g) (hg : g ρ = m0) (hρ : ∀ p, (ρ.set i (.d p.1)).set j (.d (.lst p.2)) = ρ' p) (hr : ∀ p, SG G X Wx rest (ρ' p) En (kk p))
    (hs : swapsWithSole [.Tuple [.Name x px, .Starred (.Name y py) sp] k tp] e pos.line X.env = pure false := by rfl) (hw : swappedStores [.Tuple [.Name x px, .Starred (.Name y py) sp] k tp] e X.env = pure none := by rfl) :
    SG G X Wx (.Assign [.Tuple [.Name x px, .Starred (.Name y py) sp] k tp] e pos :: rest) ρ En (bnd m0 fun d => bnd (starW d) kk) := by
  refine weakSs (pss_cons (ps_asg h (pg_star hc hN hi (.inl hx) hj (.inl hy) (.inr hx) (.inr hy)) hs hw) (pss_un (t := fun p : D × List D => tG G X Wx (ρ' p) En (kk p)) hr)) fun Dn σ H ⟨c, n, P, PX, I, q, hgl, hxx⟩ => ?_
  subst hg
  refine tE.bnd (f := fun d => bnd (starW d) kk) I q hxx.x fun d n2 v S' H' p g I' hx' r => ?_
  cases d with
  | lst xs =>
    cases xs with
    | nil => exact p.elim
    | cons y0 ys =>
      obtain ⟨a, vs, rfl, r1, hz, rs⟩ := r
      obtain ⟨v0, vr, rfl, rs1, rs2⟩ := rs
      refine ⟨a, v0, vr, rfl, r1.sq, fun l hl => ⟨(y0, ys), ?_⟩⟩
      obtain ⟨I3, g3⟩ := I'.laid (o := .lst vr) hl
      have I4 := (I3.set (i := i) (Rep.grow g3 _ _ rs1)).set (i := j) (d := .lst ys) (v := .ref l) ⟨l, vr, rfl, ⟨.inr rfl, upd_same⟩, (by rw [List.length_cons] at hz; omega), Reps.grow g3 _ _ rs2⟩
      rw [hρ (y0, ys)] at I4
      exact ⟨_, n2, P, PX, I4, p, hgl.grow (g.trans g3), hxx.grow (g.trans g3)⟩
  | _ => exact p.elim
end
/-! ### enumerate(list, start=k) -/
def IelK (K : PySem.W.Frag) (a : Addr) (k0 : Nat) : It :=
  ⟨fun i H => ∃ (xs : List V) (x : V), SqL K H a xs ∧ xs[i]? = some x, fun i H v H' => ∃ T x o, v = .ref T ∧ H T = none ∧ o.dict = none ∧ H' = upd H T (.frz o (.tup [.int ((k0 + i : Nat) : Int), x])) ∧ ∀ xs, SqL K H a xs → xs[i]? = some x, fun i H => ∃ xs : List V, SqL K H a xs ∧ xs.length ≤ i⟩
theorem enum_not_list {h : Heap} {e it a : Addr} {i : Int} {old : Value} {its : Array Value} (he : IsEnum h e it i old) (ht : h.IsList a its) : e ≠ a := fun z => by
  subst z
  obtain ⟨o, e1, e2, n, e3⟩ := ht
  have he : h.get? e = some _ := he
  rw [he] at e1
  cases e1
  cases e3
theorem turn_enumK {P : Program} {w : World} {K : PySem.W.Frag} {elts : List Expr} {kk : Nat} {tpos : Pos} (k0 : Nat) (a e it : Addr) :
    Turn P w K (.Tuple elts kk tpos) (IelK K a k0) [e, it] e (fun i h => (∃ old, IsEnum h e it ((k0 + i : Nat) : Int) old) ∧ h.IsListIter it a i ∧ e ≠ it ∧ a ≠ it) where
  mem := by simp
  obj := fun i h st b hb => by
    obtain ⟨⟨old, he⟩, ⟨o, ho, hc, hd⟩, _⟩ := st
    rcases (show b = e ∨ b = it by simpa using hb) with z | z
    · rw [z]
      exact ⟨_, he, fun v q => by cases q⟩
    · rw [z]
      exact ⟨o, ho, fun v q => by rw [hd] at q; cases q⟩
  keep := fun i h h' st k => let ⟨⟨old, he⟩, hi, hne⟩ := st; ⟨⟨old, k e (by simp) _ he⟩, hi.at fun o q => k it (by simp) o q, hne⟩
  item := by
    intro X hP hw hK hc i pins s σ H E I hf st hg
    subst hP hw hK
    obtain ⟨⟨old, he⟩, hit, hne, hai⟩ := st
    obtain ⟨xs, x, hq, hx⟩ := hg
    obtain ⟨its, rv, p, hz⟩ := I.list hq
    have p2 : s.heap.IsList a its.toArray := p.isList
    have hel : e < s.heap.objs.size := Heap.lt_size he
    have hil : it < s.heap.objs.size := by obtain ⟨_, q, _⟩ := hit; exact Heap.lt_size q
    have hea := enum_not_list he p2
    have hlt : i < its.toArray.size := by
      obtain ⟨u, hu, _⟩ := rv.get hx
      have := (List.getElem?_eq_some_iff.mp hu).1
      simpa using this
    refine wpAny_pyNext_enum_itemC (Draws.list (prog := X.prog) (w := X.w) (A := X.A.in1) (I.ok.hd hc) it a hai its.toArray) he (show s.heap.IsListIter it a i ∧ s.heap.IsList a its.toArray from ⟨hit, p2⟩) hlt hne (by simp [hne, hea]) fun u h' tk hu ho hst hT hsz hk => ?_
    obtain ⟨u', hu', ru⟩ := rv.get hx
    obtain rfl : u' = u := by
      have hu : its.toArray[i]? = some u := hu
      rw [List.getElem?_toArray, hu'] at hu
      exact Option.some.inj hu
    refine ⟨_, rfl, wpAny_letOwnedTupleGo_enum (s := { s with heap := h', toks := tk + 1 }) ho fun h'' he' sb => ?_⟩
    have hT2 : h''.get? s.heap.objs.size = some { cls := .type "tuple", data := .seq #[.int ((k0 + i : Nat) : Int) tk, u'] } := (sb.2 _ (Nat.ne_of_gt hel)).trans hT
    have new : ObjOk X.prog X.w (upd H s.heap.objs.size (.frz { cls := .type "tuple", data := .seq #[.int ((k0 + i : Nat) : Int) tk, u'] } (.tup [.int ((k0 + i : Nat) : Int), x]))) h'' s.heap.objs.size (.frz { cls := .type "tuple", data := .seq #[.int ((k0 + i : Nat) : Int) tk, u'] } (.tup [.int ((k0 + i : Nat) : Int), x])) :=
      ⟨hT2, by show 2 ≤ sizeLine; decide, [.int ((k0 + i : Nat) : Int) tk, u'], .cons ⟨_, rfl⟩ (.cons ru .nil), ⟨_, hT2, rfl, _, rfl⟩⟩
    have I1 : Inv X pins σ (upd H s.heap.objs.size (.frz { cls := .type "tuple", data := .seq #[.int ((k0 + i : Nat) : Int) tk, u'] } (.tup [.int ((k0 + i : Nat) : Int), x]))) { s with heap := h'', toks := tk + 1 } :=
      I.turnedNew (ch := [e, it]) (fun b ob hb q => (sb.2 b (fun z => hb (by simp [z]))).trans (hk b ob (fun z => hb (by simp [z])) (fun z => hb (by simp [z])) q)) hf (Nat.le_refl _) new
    refine ⟨.ref s.heap.objs.size, _, I1, rfl, ⟨_, x, _, rfl, I.hok.fresh (Nat.le_refl _), rfl, rfl, fun ys hy => by rw [I.list_inj hy hq]; exact hx⟩, ⟨⟨u', ?_⟩, hst.1.at fun o q => (sb.2 it (Ne.symm hne)).trans q, hne, hai⟩, fun b hb => ?_⟩
    · have e1 : ((k0 + (i + 1) : Nat) : Int) = ((k0 + i : Nat) : Int) + 1 := by omega
      rw [e1]
      exact he'
    · have hb2 : b < s.heap.objs.size := by
        rcases (show b = e ∨ b = it by simpa using hb) with z | z
        · exact z ▸ hel
        · exact z ▸ hil
      rw [upd_ne (Nat.ne_of_lt hb2)]
      exact (hf b hb).1
  done := by
    intro X hP hw hK hc i pins s σ H E I hf st hg
    subst hP hw hK
    obtain ⟨⟨old, he⟩, hit, hne, hai⟩ := st
    obtain ⟨xs, hq, hx⟩ := hg
    obtain ⟨its, rv, p, hz⟩ := I.list hq
    have p2 : s.heap.IsList a its.toArray := p.isList
    obtain ⟨f0, f1, f2, f3, f4, f5⟩ := hf it (by simp)
    have hl := rv.length
    have hh : X.A.in1.handled = none := I.ok.hd hc
    have hd : Draws X.prog X.w X.A.in1 it [it, a] 0 (fun _ _ => True) (fun _ h => h.IsListIter it a i ∧ h.IsList a its.toArray) :=
      ⟨fun _ _ st => let ⟨o, ho, _⟩ := st.1; ⟨o, ho⟩, fun _ _ _ st hk => ⟨st.1.at fun o e => hk it (by simp) o e, st.2.at fun o e => hk a (by simp) o e⟩, fun _ _ _ _ hi => absurd hi (Nat.not_lt_zero _), fun s Q E st hE => wpAny_nextOf_list_end hh st.1 st.2 (by simp; omega) hE⟩
    exact wpAny_pyNext_enum_endD hd he ⟨hit, p2⟩ fun h' eb => ⟨rfl, I.turned (t' := s.toks) (fun b o hb q => eb b o hb q) f0 f1 f3 f4 f5⟩
  self := fun A i s Q E st h => let ⟨⟨_, he⟩, _⟩ := st; wpAny_pyIter_enum he h
theorem callWith_typeKw {M : Model} {A : Around} {E : Value → Shared → Prop} {s : Shared} {env : PySem.Env} {pos : Pos} {T : String} {e : Expr} {rest : List Expr} {kws : List Keyword} {Q : Value → Shared → Prop}
    (h : wpAny M A (spliced (backTo pos (starEach (e :: rest) env))) (fun vs s₁ => wpAny M A (evalAll ((backToKw pos (keywordEach kws env)).map (·.2)))
      (fun kvs s₂ => wpAny M A (PySem.call (.type T) vs (((backToKw pos (keywordEach kws env)).filterMap (·.1)).zip kvs)) Q E s₂) E s₁) E s)
    (he : backTo pos (starEach (e :: rest) env) = (false, eval e env) :: backTo pos (starEach rest env))
    (hplain : (backTo pos (starEach (e :: rest) env)).any (·.1) = false)
    (hall : (backToKw pos (keywordEach kws env)).all (·.1.isSome) = true)
    (hkw : (backToKw pos (keywordEach kws env)).any (·.1.isNone) = false) :
    wpAny M A (callWith pos (.type T) [] (backTo pos (starEach (e :: rest) env)) (backToKw pos (keywordEach kws env))) Q E s := by
  unfold callWith
  have h2 : wpAny M A (evalArgs (.type T) true (backTo pos (starEach (e :: rest) env)) (backToKw pos (keywordEach kws env))) (fun a s₁ => wpAny M A (PySem.call (.type T) ([] ++ a.pos) a.kw) Q E s₁) E s := by
    rw [he] at h ⊢
    exact evalArgs_kwB hall h
  refine wpAny_bind (wpAny_holding (wpAny_mono h2 (fun a s₁ h₁ => wpAny_bind (wpAny_standAt ?_)) fun _ _ x => x))
  simp only [hplain, hkw, Bool.or_false]
  refine wpAny_bind (wpAny_pure ?_)
  exact wpAny_bind (wpAny_mono h₁ (fun r s₂ hr => wpAny_bind (wpAny_holding (wpAny_point (wpAny_pure hr)))) fun _ _ x => x)
theorem pi_enumK {X : Cx} {e ek : Expr} {te tk : TE} {p pos tpos kp : Pos} {elts : List Expr} {kk : Nat} (hg : Gl X "enumerate") (hm : X.mg "enumerate" = none) (he : PE X e te) (hk : PE X ek tk) (hs : starEach [e] X.env = (false, eval e X.env) :: starEach [] X.env := by rfl) :
    PI X (.Tuple elts kk tpos) (.Call (.Name "enumerate" p) [e] [⟨some "start", ek, kp⟩] pos) (fun σ H R => te σ H fun v H1 => tk σ H1 fun z H2 => ∃ a xs, ∃ k0 : Nat, v = .ref a ∧ z = .int (k0 : Int) ∧ k0 < 1000000 ∧ SqL X.K H2 a xs ∧ R (IelK X.K a k0) H2) := by
  refine ⟨fun pins s σ H R I h => ?_⟩
  refine wpAny_Call_Name_kw (ld_blt I hg hm boot_enumerate ?_)
  refine callWith_typeKw (thn ((pa_cons he pa_nil hs).run pos pins s σ H (fun vs H1 => match vs with | [v] => tk σ H1 fun z H2 => ∃ a xs, ∃ k0 : Nat, v = .ref a ∧ z = .int (k0 : Int) ∧ k0 < 1000000 ∧ SqL X.K H2 a xs ∧ R (IelK X.K a k0) H2 | _ => False) I h) fun us s1 ⟨vs, H1, I1, r1, q1⟩ => ?_) (by rw [hs]; rfl) (by rw [hs]; rfl) rfl rfl
  obtain ⟨v, e0, q1⟩ : ∃ v, vs = [v] ∧ tk σ H1 fun z H2 => ∃ a xs, ∃ k0 : Nat, v = .ref a ∧ z = .int (k0 : Int) ∧ k0 < 1000000 ∧ SqL X.K H2 a xs ∧ R (IelK X.K a k0) H2 := by
    match vs, q1 with
    | [v], q1 => exact ⟨v, rfl, q1⟩
  subst e0
  cases r1 with
  | cons r rr =>
    cases rr
    refine thn ((pk_cons (nm := some "start") (kpos := kp) hk pk_nil).run pos pins s1 σ H1 (fun zs H2 => match zs with | [z] => ∃ a xs, ∃ k0 : Nat, v = .ref a ∧ z = .int (k0 : Int) ∧ k0 < 1000000 ∧ SqL X.K H2 a xs ∧ R (IelK X.K a k0) H2 | _ => False) I1 q1) fun ws s2 ⟨zs, H2, I2, r2, q2⟩ => ?_
    obtain ⟨z, e0, a, xs, k0, ev, ez, hk0, hq, q⟩ : ∃ z, zs = [z] ∧ ∃ a xs, ∃ k0 : Nat, v = .ref a ∧ z = .int (k0 : Int) ∧ k0 < 1000000 ∧ SqL X.K H2 a xs ∧ R (IelK X.K a k0) H2 := by
      match zs, q2 with
      | [z], q2 => exact ⟨z, rfl, q2⟩
    subst e0 ev ez
    cases r
    cases r2 with
    | cons r2 rr2 =>
      cases rr2
      obtain ⟨tt, rfl⟩ := r2
      have fp2 : ∀ b ∈ [s2.heap.objs.size + 1, s2.heap.objs.size], FpOk X pins H2 b := fun b hb => by
        have hle : s2.heap.objs.size ≤ b := by
          rcases (show b = s2.heap.objs.size + 1 ∨ b = s2.heap.objs.size by simpa using hb) with z | z <;> omega
        exact I2.fpOk hle (I2.hok.fresh hle)
      obtain ⟨its, rv, p', hz⟩ := I2.list hq
      have p2 : s2.heap.IsList a its.toArray := p'.isList
      have hla : a < s2.heap.objs.size := by obtain ⟨_, q, _⟩ := p2; exact Heap.lt_size q
      show wpAny _ _ (PySem.call (.type "enumerate") [.ref a] [(Str.ofString "start", .int (k0 : Int) tt)]) _ _ _
      refine enum_begins_start (begins_list a its.toArray) p2 (by omega) (by omega) fun h' he hit hsz hk => wpAny_pyIter_enum he ?_
      exact ⟨s2.heap.objs.size + 1, [s2.heap.objs.size + 1, s2.heap.objs.size], _, _, H2, rfl, I2.kept (t' := s2.toks) hk, turn_enumK k0 a (s2.heap.objs.size + 1) s2.heap.objs.size, ⟨⟨.none, he⟩, ⟨_, hit, rfl, rfl⟩, Nat.succ_ne_self _, Nat.ne_of_lt hla⟩, fp2, q⟩
section
variable {G : PenK} {X : Cx} {Wx : WX}
theorem walks_enumK {K : PySem.W.Frag} {S : Addr → Prop} {H : Hp} {a : Addr} {k0 : Nat} {xs : List D} {vs : List V} (h : RdL S H a vs) (r : Reps K S H xs vs) : Walks G K (IelK K a k0) S H (enumFrom k0 xs) := fun c ρ σ H2 n i g I => by
  have h2 := h.grow g
  have r2 := Reps.grow g _ _ r
  rw [enumFrom_len]
  refine ⟨fun hi => ?_, fun hi => ⟨vs, h2.sq, by rw [r2.len]; exact hi⟩⟩
  have hx : xs[i]? = some xs[i] := List.getElem?_eq_getElem hi
  obtain ⟨v, e1, e2⟩ := Reps.at r2 hx
  refine ⟨⟨vs, v, h2.sq, e1⟩, fun u H' ⟨T, x, o, eu, hT, od, eH, y⟩ => ?_⟩
  have ex := y vs h2.sq
  rw [e1] at ex
  cases ex
  subst eu eH
  obtain ⟨IS, gS⟩ := I.laid (o := .frz o (.tup [.int ((k0 + i : Nat) : Int), v])) hT
  exact ⟨_, .tup [.int ((k0 + i : Nat) : Int), xs[i]], gS, IS, by rw [enumFrom_get, hx]; rfl, T, [.int ((k0 + i : Nat) : Int), v], rfl, .inl ⟨.inr rfl, o, upd_same, od⟩, (by show 2 ≤ sizeLine; decide), _, _, rfl, rfl, _, _, rfl, Rep.grow gS _ _ e2, rfl⟩
def enumKI (k0 : Nat) (d : D) : W (List (Int × D)) := match d with
  | .lst xs => ret (enumZ k0 xs)
  | _ => stuck
theorem w_enumK {elts : List Expr} {kk k0 : Nat} {tpos p pos kp : Pos} {e ek : Expr} {g gk : Env → W D} (hm : X.mg "enumerate" = none) (h : E G X Wx e g) (hk : E G X Wx ek gk) (hz : k0 < 1000000) (hgk : ∀ ρ, gk ρ = ret (.int (k0 : Int))) (hg : Gl X "enumerate" := by rfl) (hs : starEach [e] X.env = (false, eval e X.env) :: starEach [] X.env := by rfl) :
    Wk G X Wx (.Tuple elts kk tpos) (.Call (.Name "enumerate" p) [e] [⟨some "start", ek, kp⟩] pos) (fun ρ => bnd (bnd (g ρ) (enumKI k0)) fun ys => ret (ys.map eT)) :=
  weakI (pi_enumK hg hm h hk hs) fun σ H R ⟨c, ρ, n, P, PX, I, q, hg, hx⟩ => by
    have q : bnd (bnd (g ρ) (enumKI k0)) (fun ys => ret (ys.map eT)) n P PX := q
    rw [bnd_bnd] at q
    refine tE.bnd (f := fun d => bnd (enumKI k0 d) fun ys => ret (ys.map eT)) I q hx fun d k u S' H' p g I' hx' r => ?_
    refine ⟨c.to S', ρ, k, fun z k2 => z = .int (k0 : Int) ∧ k2 = k, PX, I', (by rw [hgk ρ]; exact ⟨rfl, rfl⟩), fun z k2 v2 S2 H2 ⟨ez, ek2⟩ g2 I2 r2 => ?_, hx'⟩
    subst ez ek2
    cases d with
    | lst xs =>
      obtain ⟨a, vs, rfl, r1, hz1, q1⟩ := r
      refine ⟨a, vs, k0, rfl, r2, hz, (r1.grow g2).sq, ?_⟩
      have p : P (List.map eT (enumZ k0 xs)) k2 := p
      rw [← enumZ_map] at p
      exact hg _ k2 S2 H2 _ p (g.trans g2) I2 (walks_enumK (r1.grow g2) (Reps.grow g2 _ _ q1))
    | _ => exact p.elim
end
/-! ### str(x) of more, text * int -/
def strXW (x : D) : W D := match x with
  | .str a => ret (.str a)
  | .int i => grd (i.natAbs.log2 < 1920 ∧ (toString i : Str).length ≤ sizeLine) (ret (.str (toString i)))
  | .non => ret (.str (Str.ofString "None"))
  | .lst xs => grd ((py (.lst xs)).showable = true ∧ (py (.lst xs)).shown.length ≤ sizeLine ∧ (py (.lst xs)).depth ≤ 60 ∧ (py (.lst xs)).hasDict = false) (ret (.str (py (.lst xs)).shown))
  | _ => stuck
/-- what str(x) gives -/
inductive StrX : D → Str → Prop
  | str (a : Str) : a.length ≤ sizeLine → StrX (.str a) a
  | int (i : Int) : i.natAbs.log2 < 1920 → (toString i : Str).length ≤ sizeLine → StrX (.int i) (toString i)
  | non : StrX .non (Str.ofString "None")
  | lst (xs : List D) : (py (.lst xs)).showable = true → (py (.lst xs)).shown.length ≤ sizeLine → (py (.lst xs)).depth ≤ 60 → (py (.lst xs)).hasDict = false → StrX (.lst xs) (py (.lst xs)).shown
theorem StrX.len {d : D} {y : Str} (h : StrX d y) : y.length ≤ sizeLine := by
  cases h with
  | str _ h => exact h
  | int i h1 h2 => exact h2
  | non => decide +kernel
  | lst xs h1 h2 h3 h4 => exact h2
theorem strXW_inv {d : D} {n : Nt} {P : D → Nt → Prop} {PX : Exc → Nt → Prop} (h : strXW d n P PX) (hz : ∀ a, d = .str a → a.length ≤ sizeLine) : ∃ y, StrX d y ∧ P (.str y) n := by
  cases d with
  | str a => exact ⟨a, .str a (hz a rfl), h⟩
  | int i => exact ⟨_, .int i h.1.1 h.1.2, h.2⟩
  | non => exact ⟨_, .non, h⟩
  | lst xs => exact ⟨_, .lst xs h.1.1 h.1.2.1 h.1.2.2.1 h.1.2.2.2, h.2⟩
  | _ => exact h.elim
theorem e_strX {G : PenK} {X : Cx} {Wx : WX} {k : Nat} {p pos : Pos} {e : Expr} {g : Env → W D} (hm : X.mg "str" = none) (hgd : X.A.guards = some []) (hr : Room k X.A) (h : E G X Wx e g) (hg : Gl X "str" := by rfl) (he : starEach [e] X.env = (false, eval e X.env) :: starEach [] X.env := by rfl) (hpl : (backTo pos (starEach [] X.env)).any (·.1) = false := by rfl) :
    E G X Wx (.Call (.Name "str" p) [e] [] pos) (fun ρ => bnd (g ρ) strXW) :=
  e_callT (r := fun vs H Q => ∃ (S : Addr → Prop) (d : D) (v : V) (y : Str), vs = [v] ∧ Rep X.K S H d v ∧ StrX d y ∧ Q (.str y) H) hm PyProof.Rows.boot_str
    (fun pins s σ H xs us Q I rv ⟨S, d, v, y, e1, r, hy, q⟩ => by
      subst e1
      obtain ⟨u, rfl, ru⟩ := L2.vals1 rv
      cases hy with
      | str _ h1 =>
        obtain ⟨rfl, _⟩ := r
        obtain ⟨t, rfl⟩ := ru
        exact PySem.P.str_of_str ⟨.str y, H, I, ⟨t, rfl⟩, q⟩
      | int i h1 h2 =>
        cases r
        obtain ⟨t, rfl⟩ := ru
        exact PySem.P.str_of_int h1 ⟨.str _, H, I.tok _, ⟨_, rfl⟩, q⟩
      | non =>
        cases r
        cases ru
        exact PySem.P.str_of_none ⟨.str _, H, I.tok _, ⟨_, rfl⟩, q⟩
      | lst xs h1 h2 h3 h4 =>
        have rx := Rep.rx I (.lst xs) v u h1 r ru
        obtain ⟨as, rd⟩ := RX.reads _ rx
        obtain ⟨a, vs, rfl, _⟩ := r
        cases ru
        exact str_of_reads rd h1 (fun z => by rw [h4] at z; cases z) hgd (by have := hr.un; omega) (fun _ _ e => e) (fun h' t tk hk => ⟨.str _, H, I.kept hk, ⟨t, rfl⟩, q⟩) h2)
    (va_one (f := strXW) (r := fun v H Q => ∃ (S : Addr → Prop) (d : D) (y : Str), Rep X.K S H d v ∧ StrX d y ∧ Q (.str y) H) (fun c σ ρ H n P PX d v Q I r h1 hg hx => by
      obtain ⟨y, hy, q⟩ := strXW_inv h1 fun a e => by subst e; exact r.2
      exact ⟨c.S, d, y, r, hy, hg.at (d := .str y) q I ⟨rfl, hy.len⟩⟩)
      fun x H Q ⟨S, d, y, r, h1, q⟩ => ⟨S, d, x, y, rfl, r, h1, q⟩) (a_cons h a_nil he) hg (by decide) (by decide) he hpl
theorem op_mulStr {X : Cx} : OpR X (binaryOp .Mult) (fun x y H Q => ∃ a n, x = .str a ∧ y = .int n ∧ MulOk a n ∧ Q (.str (Txt.mul a n)) H) := by
  intro pins s σ H x y v u Q I rx ry h
  obtain ⟨a, n, rfl, rfl, hm, q⟩ := h
  obtain ⟨t, rfl⟩ := rx
  obtain ⟨t', rfl⟩ := ry
  exact PySem.SB.mul hm fun t2 k => ⟨.str _, H, I.tok k, ⟨_, rfl⟩, q⟩
def repS (a : Str) (n : Int) : W Str := grd (MulOk a n ∧ (Txt.mul a n).length ≤ sizeLine) (ret (Txt.mul a n))
def repSD (x y : D) : W D := match x, y with
  | .str a, .int n => bnd (repS a n) fun z => ret (.str z)
  | _, _ => stuck
theorem e_repS {G : PenK} {X : Cx} {Wx : WX} {a b : Expr} {pos : Pos} {ga gb : Env → W D} (ha : E G X Wx a ga) (hb : E G X Wx b gb) : E G X Wx (.BinOp a .Mult b pos) (fun ρ => bnd (ga ρ) fun x => bnd (gb ρ) fun y => repSD x y) :=
  e_op op_mulStr (by
    intro c σ ρ H n P PX d e v w Q I rd re h hg hx
    cases d with
    | str x =>
      cases e with
      | int k =>
        cases re
        obtain ⟨rfl, _⟩ := rd
        obtain ⟨⟨h1, h2⟩, h⟩ := h
        exact ⟨x, k, rfl, rfl, h1, hg.at (d := .str (Txt.mul x k)) h I ⟨rfl, h2⟩⟩
      | _ => exact False.elim h
    | _ => exact False.elim h) ha hb
end PL

/-! Dicts laid over one another, as plain data. -/
namespace PL
open PySem PySem.Spec L2
end PL

/-! Plain: data without bools and dicts, sorted items, entries dropped, words by letters, stores over known keys. -/
namespace PL
open PySem PySem.Spec L2
/-! ### data that is equal just when it is the same -/
inductive Pl : D → Prop
  | non : Pl .non
  | int (i : Int) : Pl (.int i)
  | str {s : Str} (h : okD (.str s) = true) : Pl (.str s)
  | lst {xs : List D} (h : ∀ x ∈ xs, Pl x) : Pl (.lst xs)
  | tup {xs : List D} (h : ∀ x ∈ xs, Pl x) : Pl (.tup xs)
theorem pys_lay : ∀ {xs : List D}, (∀ x ∈ xs, (py x).canLay0 = true) → PyData.canLayAll0 (pys xs) = true
  | [], _ => by simp [pys, PyData.canLayAll0]
  | x :: xs, h => by
    have := pys_lay (xs := xs) fun y hy => h y (List.mem_cons_of_mem _ hy)
    simp [pys, PyData.canLayAll0, h x List.mem_cons_self, this]
theorem Pl.lay : ∀ {x : D}, Pl x → (py x).canLay0 = true
  | _, .non => by simp [py, PyData.canLay0]
  | _, .int i => by simp [py, PyData.canLay0]
  | _, .str h => okD_lay h
  | _, .lst h => by
    have := pys_lay fun x hx => (h x hx).lay
    simp [py, PyData.canLay0, this]
  | _, .tup h => by
    have := pys_lay fun x hx => (h x hx).lay
    simp [py, PyData.canLay0, this]
theorem eqvs_iff : ∀ {xs ys : List D}, (∀ x ∈ xs, ∀ y ∈ ys, PyData.eqv (py x) (py y) = true ↔ x = y) → (PyData.eqvAll (pys xs) (pys ys) = true ↔ xs = ys)
  | [], [], _ => by simp [pys, PyData.eqvAll]
  | [], _ :: _, _ => by simp [pys, PyData.eqvAll]
  | _ :: _, [], _ => by simp [pys, PyData.eqvAll]
  | x :: xs, y :: ys, h => by
    have ih := eqvs_iff (xs := xs) (ys := ys) fun a ha b hb => h a (List.mem_cons_of_mem _ ha) b (List.mem_cons_of_mem _ hb)
    simp only [pys, PyData.eqvAll, Bool.and_eq_true, ih, h x List.mem_cons_self y List.mem_cons_self, List.cons.injEq]
theorem Pl.eqv_iff : ∀ {x : D}, Pl x → ∀ {y : D}, Pl y → (PyData.eqv (py x) (py y) = true ↔ x = y)
  | _, .non, _, hy => by cases hy <;> simp [py, PyData.eqv]
  | _, .int i, _, hy => by cases hy <;> simp [py, PyData.eqv]
  | _, .str h, _, hy => by cases hy <;> simp [py, PyData.eqv]
  | _, .lst h, _, hy => by
    cases hy with
    | lst h2 =>
      have := eqvs_iff fun x hx y hy => (h x hx).eqv_iff (h2 y hy)
      simp only [py, PyData.eqv, this, D.lst.injEq]
    | _ => simp [py, PyData.eqv]
  | _, .tup h, _, hy => by
    cases hy with
    | tup h2 =>
      have := eqvs_iff fun x hx y hy => (h x hx).eqv_iff (h2 y hy)
      simp only [py, PyData.eqv, this, D.tup.injEq]
    | _ => simp [py, PyData.eqv]
open Classical in
theorem Pl.eqv {x y : D} (hx : Pl x) (hy : Pl y) : PyData.eqv (py x) (py y) = decide (x = y) := by
  have h := hx.eqv_iff hy
  by_cases e : x = y
  · rw [h.mpr e]; exact (decide_eq_true e).symm
  · rw [Bool.eq_false_iff.mpr fun z => e (h.mp z)]; exact (decide_eq_false e).symm
/-- data of which repr and == can speak -/
structure Gd (k : Nat) (x : D) : Prop where
  pl : Pl x
  dp : (py x).depth ≤ k
theorem Gd.ok {k : Nat} {x : D} (h : Gd k x) (hk : k ≤ 63) : okD x = true := by
  unfold okD SeqAt.shaped
  rw [h.pl.lay]
  have := h.dp
  simp
  omega
theorem Gd.up {k j : Nat} {x : D} (h : Gd k x) (hk : k ≤ j) : Gd j x := ⟨h.pl, Nat.le_trans h.dp hk⟩
theorem Gd.tup {k : Nat} {xs : List D} (h : ∀ x ∈ xs, Gd k x) : Gd (k + 1) (.tup xs) :=
  ⟨.tup fun x hx => (h x hx).pl, by simp only [py, PyData.depth]; exact Nat.succ_le_succ (depths_le.mpr fun x hx => (h x hx).dp)⟩
theorem Gd.lst {k : Nat} {xs : List D} (h : ∀ x ∈ xs, Gd k x) : Gd (k + 1) (.lst xs) :=
  ⟨.lst fun x hx => (h x hx).pl, by simp only [py, PyData.depth]; exact Nat.succ_le_succ (depths_le.mpr fun x hx => (h x hx).dp)⟩
theorem Gd.int {k : Nat} {i : Int} : Gd k (.int i) := ⟨.int i, by simp [py, PyData.depth]⟩
theorem Gd.non {k : Nat} : Gd k .non := ⟨.non, by simp [py, PyData.depth]⟩
theorem Gd.str {k : Nat} {s : Str} (h : okD (.str s) = true) : Gd k (.str s) := ⟨.str h, by simp [py, PyData.depth]⟩
theorem word_ok {s : Str} (h : wordB (.str s) = true) : okD (.str s) = true := by
  have z : Sz 8 0 (.str s) := IsW.ok ⟨s, rfl, h⟩
  cases z.1 with
  | str h => exact h
/-! ### sorted(list(d.items())) -/
/-! ### entries, differences -/
def vg (g : Bool) (y : D) : Bool := (g && isNone y) || numB y
section
variable {v : D → Bool} {a b : List (Key × D)}
end
theorem num_vg (x : D) (h : numB x = true) : vg true x = true := by
  unfold vg
  rw [h, Bool.or_true]
section
variable {f g : List (Key × D)}
end
/-! ### d.pop(k), k in d -/
/-! ### stores over known keys -/
theorem nodup_len {α : Type} [DecidableEq α] : ∀ {l m : List α}, l.Nodup → (∀ x ∈ l, x ∈ m) → l.length ≤ m.length
  | [], _, _, _ => Nat.zero_le _
  | x :: l, m, h, hm => by
    have h2 := List.nodup_cons.mp h
    have hx : x ∈ m := hm x List.mem_cons_self
    have ih := nodup_len (l := l) (m := m.erase x) h2.2 fun y hy => (List.mem_erase_of_ne fun e : y = x => h2.1 (by rw [← e]; exact hy)).mpr (hm y (List.mem_cons_of_mem _ hy))
    rw [List.length_erase_of_mem hx] at ih
    have : 0 < m.length := List.length_pos_of_mem hx
    rw [List.length_cons]
    omega
def StK (K : List Str) (j : List (Key × D)) : Prop := DI numB j ∧ ∀ s ∈ keysS j, s ∈ K
def St (K : List Str) (d : D) : Prop := ∃ j, StK K j ∧ d = .tup (pairsOf j)
theorem StK.len {K : List Str} {j : List (Key × D)} (h : StK K j) : j.length ≤ K.length := by
  have := nodup_len (keysS_nodup h.1) h.2
  unfold keysS at this
  rwa [List.length_map] at this
theorem pairsOf_gd {j : List (Key × D)} (h : DI (vg true) j) : Gd 2 (.tup (pairsOf j)) := by
  refine .tup fun x hx => ?_
  obtain ⟨s, hs, rfl⟩ := List.mem_map.mp hx
  refine .tup fun y hy => ?_
  rcases List.mem_cons.mp hy with rfl | hy
  · exact .str (word_ok (keysS_word h (sortT_mem.mp hs)))
  · rw [List.mem_singleton.mp hy]
    obtain ⟨y, e, hy⟩ := valD_some h (sortT_mem.mp hs)
    have ev : valS j s = y := by unfold valS; rw [e]; rfl
    rw [ev]
    unfold vg at hy
    cases y with
    | non => exact .non
    | int i => exact .int
    | _ => simp [isNone, numB] at hy
theorem St.gd {K : List Str} {d : D} (h : St K d) : Gd 2 d := by
  obtain ⟨j, hj, rfl⟩ := h
  exact pairsOf_gd (hj.1.mono num_vg)
/-! ### loops that gather -/
/-! ### letters -/
def strL (ks : List Nat) : Str := ⟨ks.toArray⟩
theorem strL_toList (ks : List Nat) : (strL ks).cps.toList = ks := rfl
theorem strL_len (ks : List Nat) : (strL ks).length = ks.length := List.size_toArray
theorem cutS_take (a : List Nat) (n : Nat) : cutS (strL a) none (some (n : Int)) = strL (a.take n) := by
  unfold cutS
  rw [HT.sIx_none, HT.sIx_nat, List.drop_zero, Nat.sub_zero, strL_len]
  show strL ((strL a).cps.toList.take _) = _
  rw [strL_toList]
  congr 1
  by_cases h : n ≤ a.length
  · rw [Nat.min_eq_left h]
  · rw [Nat.min_eq_right (by omega), List.take_length, List.take_of_length_le (by omega)]
/-! ### the words of commands -/
theorem lenI_tup (xs : List D) : lenI (.tup xs) = ret (xs.length : Int) := rfl
end PL

namespace Q81
open PySem PySem.Spec L2 PL LamX
def errT : ETab := [(Str.ofString "InvalidText", [Str.ofString "InvalidText", Str.ofString "RewindError", Str.ofString "ValueError", Str.ofString "Exception", Str.ofString "BaseException", Str.ofString "object"])]
@[irreducible] def d_is_integer (value : D) : W D :=
    andD (ret (.bl (isT .int value))) (ret (.bl (!(isT .bool value))))
def m_is_integer : List SV → W D
  | [.d value] => d_is_integer value
  | _ => stuck
@[irreducible] def d_is_between (value : D) (least : D) (most : D) : W D :=
    andD (cl (d_is_integer value)) (thenB (leD least value) (leD value most))
def m_is_between : List SV → W D
  | [.d value, .d least, .d most] => d_is_between value least most
  | _ => stuck
@[irreducible] def d_is_word (value : D) : W D :=
    bnd (orB (ret (!(isT .str value))) (bnd (lenI value) fun n => bnd (thenB (ret (.bl (decide (1 ≤ n)))) (ret (.bl (decide (n ≤ 8))))) fun k => bnd (blB k) fun k1 => ret (!k1))) fun kk => if kk = true then
    ret (.bl false)
    else
    bnd (codesD value) fun ks => bnd (mapP (fun sign => inStr false (chD sign) (.str (Str.ofString "abcdefghijklmnopqrstuvwxyz"))) ks) fun xs => allD (.lst xs)
def m_is_word : List SV → W D
  | [.d value] => d_is_word value
  | _ => stuck
@[irreducible] def d_is_value (value : D) : W D :=
    cl (d_is_between value (.int (-1000000000000000000)) (.int 1000000000000000000))
def m_is_value : List SV → W D
  | [.d value] => d_is_value value
  | _ => stuck
@[irreducible] def d_are_pairs (value : D) : W D :=
    if (!(isT .tup value)) = true then
    ret (.bl false)
    else
    bnd (items value) fun xs => forT (fun pair j =>
    bnd (orB (ret (!(isT .tup pair))) (orB (bnd (lenI pair) fun n => ret (!decide (n = 2))) (orB (bnd (ixD pair (.int 0)) fun y => bnd (cl (d_is_word y)) fun y1 => bnd (tru y1) fun k => ret (!k)) (bnd (ixD pair (.int 0)) fun y2 => bnd (leD y2 j) fun k1 => blB k1)))) fun kk => if kk = true then
    ret (.out (.bl false))
    else
    bnd (ixD pair (.int 0)) fun last =>
    ret (.go last)) (fun j1 =>
    ret (.bl true)) xs (.str (Str.ofString ""))
def m_are_pairs : List SV → W D
  | [.d value] => d_are_pairs value
  | _ => stuck
@[irreducible] def d_is_store (value : D) : W D :=
    andD (cl (d_are_pairs value)) (bnd (items value) fun xs => bnd (mapP (fun pair => bnd (ixD pair (.int 1)) fun y1 => cl (d_is_value y1)) xs) fun xs1 => allD (.lst xs1))
def m_is_store : List SV → W D
  | [.d value] => d_is_store value
  | _ => stuck
@[irreducible] def d_number_in (text : D) : W D :=
    bnd (bnd (slD text none (some 1)) fun s => bnd (eqB s (.str (Str.ofString "-"))) fun k => if k = true then slD text (some 1) none else ret text) fun digits =>
    bnd (orB (bnd (lenI digits) fun n => bnd (thenB (ret (.bl (decide (1 ≤ n)))) (ret (.bl (decide (n ≤ 60))))) fun k1 => bnd (blB k1) fun k2 => ret (!k2)) (bnd (codesD digits) fun ks => bnd (mapP (fun sign => inStr false (chD sign) (.str (Str.ofString "0123456789"))) ks) fun xs => bnd (allD (.lst xs)) fun y => bnd (tru y) fun k4 => ret (!k4))) fun kk => if kk = true then
    ret .non
    else
    bnd (andB (bnd (ixD digits (.int 0)) fun y1 => eqB y1 (.str (Str.ofString "0"))) (neB text (.str (Str.ofString "0")))) fun kk => if kk = true then
    ret .non
    else
    intTW text
def m_number_in : List SV → W D
  | [.d text] => d_number_in text
  | _ => stuck
@[irreducible] def d_need_text (text : D) : W D :=
    if (!(isT .str text)) = true then
    bnd (ret .non) fun d => rse (Str.ofString "InvalidText", [(Str.ofString "position", d)])
    else
    ret .non
def m_need_text : List SV → W D
  | [.d text] => d_need_text text
  | _ => stuck
@[irreducible] def d_store_in (text : D) : W D :=
    bnd (eqB text (.str (Str.ofString "-"))) fun kk => if kk = true then
    ret (.tup [])
    else
    bnd (onStr text (splitW text (.str (Str.ofString " ")))) fun cut => forT (fun part j =>
    bnd (bnd (onStr part (partW part (.str (Str.ofString "=")))) fun cut1 => unp3 cut1) fun p =>
    bnd (bnd (cl (d_number_in p.2.2)) fun y => ret [p.1, y]) fun app => roomL j (
    ret (.go (j ++ [(.tup app)])))) (fun j1 =>
    bnd (cl (d_is_store (.tup j1))) fun y1 => bnd (tru y1) fun k1 => if k1 = true then ret (.tup j1) else ret .non) cut []
def m_store_in : List SV → W D
  | [.d text] => d_store_in text
  | _ => stuck
@[irreducible] def d_mark_in (text : D) : W D :=
    bnd (bnd (onStr text (partW text (.str (Str.ofString ": ")))) fun cut => unp3 cut) fun p =>
    bnd (cl (d_store_in p.2.2)) fun store =>
    bnd (orB (eqB p.2.1 (.str (Str.ofString ""))) (orB (bnd (cl (d_is_word p.1)) fun y1 => bnd (tru y1) fun k1 => ret (!k1)) (ret (isNone store)))) fun kk => if kk = true then
    ret .non
    else
    ret (.tup [p.1, store])
def m_mark_in : List SV → W D
  | [.d text] => d_mark_in text
  | _ => stuck
@[irreducible] def d_read_state (text : D) : W D :=
    bnd (cl (d_need_text text)) fun _ =>
    bnd (bnd (onStr text (splitW text (.str (Str.ofString "\n")))) fun cut => ret (.lst cut)) fun d => bnd (starW d) fun p =>
    bnd (cl (d_store_in p.1)) fun store =>
    if (isNone store) = true then
    bnd (ret (.int 0)) fun d => rse (Str.ofString "InvalidText", [(Str.ofString "position", d)])
    else
    bnd (enumKI 1 (.lst p.2)) fun es => forT (fun p1 j =>
    bnd (cl (d_mark_in p1.2)) fun mark =>
    if (isNone mark) = true then
    bnd (ret (.int p1.1)) fun d => rse (Str.ofString "InvalidText", [(Str.ofString "position", d)])
    else
    roomL j (
    ret (.go (j ++ [mark])))) (fun j1 =>
    ret (.tup [store, (.tup j1.reverse)])) es []
def m_read_state : List SV → W D
  | [.d text] => d_read_state text
  | _ => stuck
@[irreducible] def d_l_word : W D :=
    bnd (bnd (drw 6) fun r => ret (decide (0 < r))) fun kk => if kk = true then
    bnd (drw 3) fun r1 => ixD (.str (Str.ofString "abc")) (.int r1)
    else
    bnd (bnd (drw 8) fun r2 => ret (1 + r2)) fun many =>
    bnd (rngI many) fun isV => bnd (mapP (fun k => bnd (drw 26) fun r3 => ixD (.str (Str.ofString "abcdefghijklmnopqrstuvwxyz")) (.int r3)) isV) fun xs => joinD (.str (Str.ofString "")) (.lst xs)
def m_l_word : List SV → W D
  | [.pen] => d_l_word
  | _ => stuck
@[irreducible] def d_l_number : W D :=
    bnd (drw 12) fun near =>
    bnd (drw 4) fun r1 => ixD (.lst [(.int (near - 5)), (.int (near - 5)), (.int (1000000000000000000 - near)), (.int (near - 1000000000000000000))]) (.int r1)
def m_l_number : List SV → W D
  | [.pen] => d_l_number
  | _ => stuck
@[irreducible] def d_l_pairs (most : Int) (rare : Int) : W D :=
    bnd (bnd (drw (most + 1)) fun r => rngI r) fun isV => forT (fun turn j =>
    bnd (d_l_word) fun label =>
    bnd (bnd (d_l_number) fun y1 => putW j label y1) fun found =>
    bnd (andB (ret (decide (0 < rare))) (bnd (drw rare) fun r1 => ret (decide (r1 = 0)))) fun kk => if kk = true then
    bnd (putW found label .non) fun found1 =>
    ret (.go found1)
    else
    ret (.go found)) (fun j1 =>
    bnd (keysD (.dic j1)) fun xs => bnd (sortW (.lst xs)) fun xs1 => bnd (mapP (fun label1 => bnd (dgetD (.dic j1) label1) fun y2 => ret (.tup [label1, y2])) xs1) fun xs2 => ret (.tup xs2)) isV []
def m_l_pairs : List SV → W D
  | [.pen, .d (.int most), .d (.int rare)] => d_l_pairs most rare
  | _ => stuck
@[irreducible] def d_l_state (most : Int) (keys : Int) : W D :=
    bnd (bnd (drw (most + 1)) fun r => bnd (drw 5) fun r1 => bnd (ixD (.lst [(.int r), (.int most)]) (.int (if (decide (r1 = 0)) then 1 else 0))) fun y => bnd (intI y) fun i => rngI i) fun isV => forT (fun turn j =>
    bnd (bnd (d_l_word) fun y1 => bnd (d_l_pairs keys 0) fun y2 => ret [y1, y2]) fun app => roomL j (
    ret (.go (j ++ [(.tup app)])))) (fun j1 =>
    bnd (d_l_pairs keys 0) fun y3 => ret (.tup [y3, (.tup j1)])) isV []
def m_l_state : List SV → W D
  | [.pen, .d (.int most), .d (.int keys)] => d_l_state most keys
  | _ => stuck
@[irreducible] def d_l_is_word (thing : D) : W D :=
    bnd (orB (ret (!(isT .str thing))) (bnd (lenI thing) fun n => bnd (thenB (ret (.bl (decide (1 ≤ n)))) (ret (.bl (decide (n ≤ 8))))) fun k => bnd (blB k) fun k1 => ret (!k1))) fun kk => if kk = true then
    ret (.bl false)
    else
    bnd (codesD thing) fun ks => bnd (selP (fun sign => bnd (thenB (leD (.str (Str.ofString "a")) (chD sign)) (leD (chD sign) (.str (Str.ofString "z")))) fun k5 => bnd (blB k5) fun k6 => ret (!k6)) (fun sign => ret (chD sign)) ks) fun xs => bnd (eqB (.lst xs) (.lst [])) fun k7 => ret (.bl k7)
def m_l_is_word : List SV → W D
  | [.d thing] => d_l_is_word thing
  | _ => stuck
@[irreducible] def d_l_is_number (thing : D) : W D :=
    andD (ret (.bl (isT .int thing))) (andD (ret (.bl (!(isT .bool thing)))) (bnd (absD thing) fun y => bnd (intI y) fun i => ret (.bl (decide (i ≤ 1000000000000000000)))))
def m_l_is_number : List SV → W D
  | [.d thing] => d_l_is_number thing
  | _ => stuck
@[irreducible] def d_l_full_text (full : D) : W D :=
    bnd (lenI full) fun n => if (decide (0 < n)) = true then bnd (items full) fun xs => bnd (fewN xs.length (quiet (compP (fun x => bnd (unp2 x) fun p => bnd (bnd (addD p.1 (.str (Str.ofString "="))) fun c => bnd (strOfW p.2) fun s => addD c s) fun y => ret (some y)) xs))) fun xs1 => joinD (.str (Str.ofString " ")) (.lst xs1) else ret (.str (Str.ofString "-"))
def m_l_full_text : List SV → W D
  | [.d full] => d_l_full_text full
  | _ => stuck
@[irreducible] def d_l_state_text (now : D) : W D :=
    bnd (bnd (ixD now (.int 0)) fun y => bnd (cl (d_l_full_text y)) fun y1 => ret [y1]) fun rows =>
    bnd (bnd (ixD now (.int 1)) fun y2 => bnd (lenI y2) fun n => rngI n) fun isV => forT (fun k j =>
    bnd (bnd (ixD now (.int 1)) fun y3 => bnd (ixD now (.int 1)) fun y4 => bnd (lenI y4) fun n1 => bnd (ixD y3 (.int ((n1 - 1) - k))) fun y5 => unp2 y5) fun p =>
    bnd (bnd (addD p.1 (.str (Str.ofString ": "))) fun c => bnd (cl (d_l_full_text p.2)) fun y6 => addD c y6) fun app => roomL j (
    ret (.go (j ++ [app])))) (fun j1 =>
    joinD (.str (Str.ofString "\n")) (.lst j1)) isV rows
def m_l_state_text : List SV → W D
  | [.d now] => d_l_state_text now
  | _ => stuck
@[irreducible] def d_l_number_in (part : D) : W D :=
    bnd (bnd (slD part none (some 1)) fun s => bnd (eqB s (.str (Str.ofString "-"))) fun k => slD part (some (if k then 1 else 0)) none) fun digits =>
    bnd (orB (eqB digits (.str (Str.ofString ""))) (orB (bnd (codesD digits) fun ks => bnd (selP (fun sign => bnd (inStr true (chD sign) (.str (Str.ofString "0123456789"))) fun k2 => bnd (blB k2) fun k3 => ret k3) (fun sign => ret (chD sign)) ks) fun xs => neB (.lst xs) (.lst [])) (bnd (lenI digits) fun n => ret (decide (60 < n))))) fun kk => if kk = true then
    ret .non
    else
    bnd (andB (bnd (ixD digits (.int 0)) fun y => eqB y (.str (Str.ofString "0"))) (neB part (.str (Str.ofString "0")))) fun kk => if kk = true then
    ret .non
    else
    intTW part
def m_l_number_in : List SV → W D
  | [.d part] => d_l_number_in part
  | _ => stuck
@[irreducible] def d_l_bent_text (whole : D) : W D :=
    bnd (bnd (lenI whole) fun n => drw (n + 1)) fun spot =>
    bnd (bnd (drw 13) fun r1 => ixD (.str (Str.ofString " ;-0a:={}\n9zA")) (.int r1)) fun sign =>
    bnd (onStr whole (splitW whole (.str (Str.ofString " ")))) fun parts =>
    bnd (drw (parts.length : Int)) fun place =>
    bnd (bnd (slD whole none (some spot)) fun s => bnd (addD s sign) fun c => bnd (slD whole (some spot) none) fun s1 => bnd (addD c s1) fun c1 => bnd (slD whole none (some spot)) fun s2 => bnd (addD s2 sign) fun c2 => bnd (slD whole (some (spot + 1)) none) fun s3 => bnd (addD c2 s3) fun c3 => bnd (slD whole none (some spot)) fun s4 => bnd (slD whole (some (spot + 1)) none) fun s5 => bnd (addD s4 s5) fun c4 => ret [c1, c3, c4]) fun someV =>
    bnd (bnd (slD whole none (some spot)) fun s6 => bnd (slD whole (some spot) none) fun s7 => bnd (addD whole sign) fun c5 => bnd (addL (cutD parts none (some place)) (cutD parts (some (place + 1)) none)) fun c6 => bnd (joinD (.str (Str.ofString " ")) (.lst c6)) fun j => addL someV [s6, s7, c5, j]) fun someV1 =>
    bnd (bnd (addL (cutD parts none (some (place + 1))) (cutD parts (some place) none)) fun c8 => bnd (joinD (.str (Str.ofString " ")) (.lst c8)) fun j1 => bnd (addD whole (.str (Str.ofString "; "))) fun c9 => bnd (addD c9 whole) fun c10 => bnd (addD whole (.str (Str.ofString "\n"))) fun c11 => bnd (addD c11 whole) fun c12 => addL someV1 [j1, c10, c12]) fun someV2 =>
    bnd (bnd (upperD whole) fun up => bnd (slD whole none (some 2000)) fun s8 => addL someV2 [up, (.lst [s8]), .non, (.int 0), (.str (Str.ofString "")), (.str (Str.ofString "-")), (.str (Str.ofString "- ")), (.str (Str.ofString "try { - } else { - }"))]) fun someV3 =>
    bnd (addL someV3 [(.str (Str.ofString "set a 1000000000000000001"))]) fun c15 => bnd (drw 19) fun r3 => ixD (.lst c15) (.int r3)
def m_l_bent_text : List SV → W D
  | [.pen, .d whole] => d_l_bent_text whole
  | _ => stuck
@[irreducible] def d_l_heard (m : W D) : W D :=
    tryW (m) (fun found => if (isNone .non) = true then
    ret (.lst [found])
    else stuck) fun err => onB (cat errT [Str.ofString "RewindError", Str.ofString "Refused", Str.ofString "Full", Str.ofString "TooLong", Str.ofString "TooLarge"] err) (
    if false = true then stuck else
    bnd (orB (bnd (isW errT (Str.ofString "InvalidText") err) fun z => bnd (tru z) fun k => ret (!k)) (bnd (isW errT (Str.ofString "ValueError") err) fun z1 => bnd (tru z1) fun k1 => ret (!k1))) fun kk => if kk = true then
    ret (.str (Str.ofString "odd"))
    else
    bnd (bnd (isTW errT [Str.ofString "InvalidScript", Str.ofString "InvalidState", Str.ofString "InvalidProgram", Str.ofString "InvalidCommand", Str.ofString "InvalidLine"] err) fun z2 => tru z2) fun kk => if kk = true then
    ret (.str (Str.ofString "odd"))
    else
    bnd (fldW [Str.ofString "InvalidText"] (Str.ofString "position") err) fun position => ret (.tup [(.str (Str.ofString "text")), position]))
@[irreducible] def d_l_full_in (row : D) : W D :=
    bnd (eqB row (.str (Str.ofString "-"))) fun kk => if kk = true then
    ret (.tup [])
    else
    bnd (onStr row (splitW row (.str (Str.ofString " ")))) fun cut => forT (fun part j =>
    bnd (onStr part (splitW part (.str (Str.ofString "=")))) fun parts =>
    bnd (orB (ret (!decide ((parts.length : Int) = 2))) (orB (bnd (ixD (.lst parts) (.int 0)) fun y => bnd (cl (d_l_is_word y)) fun y1 => bnd (tru y1) fun k1 => ret (!k1)) (bnd (ixD (.lst parts) (.int 1)) fun y2 => bnd (cl (d_l_number_in y2)) fun y3 => bnd (cl (d_l_is_number y3)) fun y4 => bnd (tru y4) fun k2 => ret (!k2)))) fun kk => if kk = true then
    ret (.out .non)
    else
    bnd (andB (neB (.lst j) (.lst [])) (bnd (ixD (.lst j) (.int (-1))) fun y5 => bnd (ixD y5 (.int 0)) fun y6 => bnd (ixD (.lst parts) (.int 0)) fun y7 => bnd (geD y6 y7) fun k5 => blB k5)) fun kk => if kk = true then
    ret (.out .non)
    else
    bnd (bnd (ixD (.lst parts) (.int 0)) fun y8 => bnd (ixD (.lst parts) (.int 1)) fun y9 => bnd (cl (d_l_number_in y9)) fun y10 => ret [y8, y10]) fun app => roomL j (
    ret (.go (j ++ [(.tup app)])))) (fun j1 =>
    ret (.tup j1)) cut []
def m_l_full_in : List SV → W D
  | [.d row] => d_l_full_in row
  | _ => stuck
@[irreducible] def d_l_due (thing : D) : W D :=
    if (!(isT .str thing)) = true then
    ret (.tup [(.str (Str.ofString "text")), .non])
    else
    bnd (onStr thing (splitW thing (.str (Str.ofString "\n")))) fun rows =>
    bnd (bnd (ixD (.lst rows) (.int 0)) fun y => bnd (cl (d_l_full_in y)) fun y1 => ret (isNone y1)) fun kk => if kk = true then
    ret (.tup [(.str (Str.ofString "text")), (.int 0)])
    else
    bnd (rngI2 1 (rows.length : Int)) fun isV => forT (fun k j =>
    bnd (bnd (ixD (.lst rows) (.int k)) fun y2 => bnd (onStr y2 (partW y2 (.str (Str.ofString ": ")))) fun cut1 => unp3 cut1) fun p =>
    bnd (orB (eqB p.2.1 (.str (Str.ofString ""))) (orB (bnd (cl (d_l_is_word p.1)) fun y3 => bnd (tru y3) fun k2 => ret (!k2)) (bnd (cl (d_l_full_in p.2.2)) fun y4 => ret (isNone y4)))) fun kk => if kk = true then
    ret (.out (.tup [(.str (Str.ofString "text")), (.int k)]))
    else
    bnd (bnd (cl (d_l_full_in p.2.2)) fun y5 => addL [(.tup [p.1, y5])] j) fun pile =>
    ret (.go pile)) (fun j1 =>
    bnd (ixD (.lst rows) (.int 0)) fun y6 => bnd (cl (d_l_full_in y6)) fun y7 => ret (.lst [(.tup [y7, (.tup j1)])])) isV []
def m_l_due : List SV → W D
  | [.d thing] => d_l_due thing
  | _ => stuck
@[irreducible] def d_law : W D :=
    bnd (rngK 5) fun isV => forT (fun turn j =>
    bnd (bnd (ixD (.lst [(.int 10), (.int 10), (.int 10), (.int 10), (.int 60)]) (.int turn)) fun y => bnd (intI y) fun i => d_l_state i 6) fun now =>
    bnd (cl (d_l_state_text now)) fun whole =>
    bnd (d_l_bent_text whole) fun bent =>
    bnd (bnd (d_l_bent_text whole) fun y4 => ret [whole, bent, y4, (.str (Str.ofString "b=1 a=2")), (.str (Str.ofString "a=1 a=1")), (.str (Str.ofString "a=1000000000000000001")), (.str (Str.ofString "a=-0"))]) fun things =>
    bnd (catD (.lst things) (.lst [(.str (Str.ofString "a=+1")), (.str (Str.ofString "a=1_0"))])) fun things1 =>
    bnd (d_l_bent_text (.str (Str.ofString "a: x=1 y=-5"))) fun part =>
    bnd (bnd (ixD now (.int 0)) fun y6 => bnd (cl (d_l_full_text y6)) fun y7 => bnd (addD y7 (.str (Str.ofString "\n"))) fun c => bnd (strXW part) fun s => bnd (addD c s) fun c1 => catD (.lst things1) (.lst [c1, (.str (Str.ofString "-\na:")), (.str (Str.ofString "-\na: "))])) fun things2 =>
    bnd (andB (ret (isT .str bent)) (bnd (lenI bent) fun n => ret (decide (n < 9000)))) fun kk => bnd (if kk = true then
    bnd (d_l_bent_text bent) fun app => roomL things2 (
    ret (things2 ++ [app]))
    else
    ret things2) fun j1 =>
    forT (fun thing j2 =>
    bnd (bnd (cl (d_l_due thing)) fun y9 => reprD y9) fun due =>
    bnd (bnd (d_l_heard (cl (d_read_state thing))) fun told => bnd (reprD told) fun y12 => neB y12 due) fun kk => if kk = true then
    ret (.out (.out (.bl false)))
    else
    bnd (bnd (d_l_heard (cl (d_read_state thing))) fun told1 => bnd (reprD told1) fun y14 => neB y14 due) fun kk => if kk = true then
    ret (.out (.out (.bl false)))
    else
    ret (.go ())) (fun j3 =>
    ret (.go ())) j1 ()) (fun j4 =>
    bnd (bnd (rngK 100) fun isV1 => mapP (fun k3 => bnd (fdivI k3 10) fun i1 => bnd (ixD (.str (Str.ofString "abcdefghij")) (.int i1)) fun y15 => bnd (modI k3 10) fun i2 => bnd (ixD (.str (Str.ofString "abcdefghij")) (.int i2)) fun y16 => bnd (addD y15 y16) fun c2 => ret (.tup [c2, (.int k3)])) isV1) fun full =>
    bnd (cl (d_l_full_text (.tup full))) fun words =>
    bnd (orB (bnd (cl (d_read_state words)) fun y18 => neB y18 (.tup [(.tup full), (.tup [])])) (bnd (addD (.str (Str.ofString "-\na: ")) words) fun c3 => bnd (cl (d_read_state c3)) fun y19 => neB y19 (.tup [(.tup []), (.tup [(.tup [(.str (Str.ofString "a")), (.tup full)])])]))) fun kk => if kk = true then
    ret (.bl false)
    else
    bnd (bnd (repS (Str.ofString "\na: -") 300) fun c4 => bnd (addS (Str.ofString "-") c4) fun c5 => bnd (cl (d_read_state (.str c5))) fun y20 => bnd (repD (.tup [(.tup [(.str (Str.ofString "a")), (.tup [])])]) (.int 300)) fun c6 => neB y20 (.tup [(.tup []), c6])) fun kk => if kk = true then
    ret (.bl false)
    else
    bnd (cl (d_read_state (.str (Str.ofString "x=1\na: x=1\nb: -")))) fun y21 => bnd (eqB y21 (.tup [(.tup [(.tup [(.str (Str.ofString "x")), (.int 1)])]), (.tup [(.tup [(.str (Str.ofString "b")), (.tup [])]), (.tup [(.str (Str.ofString "a")), (.tup [(.tup [(.str (Str.ofString "x")), (.int 1)])])])])])) fun k8 => ret (.bl k8)) isV ()
end Q81

namespace Q81
open PySem PySem.Spec L2 PL LamX
def topS (i : Nat) : Stmt := PySem.Challenge.pw_rewindplan_k81_states_read.main.body.getD i (.Pass ⟨0, 0, 0, 0⟩)
section
variable {P : Program} {w : World} {K : PySem.W.Frag} {mg : Str → Option Value} {base : Heap}
abbrev sDraw : Stmt := topS 33
theorem sc_draw : FnScope ["_law_feed_here", "_law_bound", "_law_digit", "_law_turn", "_law_cell", "_law_great", "_law_mixed"] ["_law_feed_here", "_law_bound"] (defScope sDraw) := ⟨rfl, rfl, rfl, by decide +kernel, rfl, by decide +kernel, by decide +kernel⟩
set_option maxHeartbeats 0 in
theorem ok_draw {k : Nat} {f : Addr} {fd : FuncData} {T : List (Addr × Str)} {mgl : Str → Option Value} {bb : Bool} (F : Fun K "_law_take" "_law_take" sDraw f fd) (ml : mg "len" = none) (mb : mg "abs" = none) (mi : mg "int" = none) :
    FnG P w K mg base (k + 1) f fd ["_law_feed_here", "_law_bound"] (spM ((penG.wt T mgl).wc bb) K mg 2 drawM) := by
  refine FnG.of_body F sc_draw (fun vs H Q E ⟨S, pen, args, n, P, PX, hl, _, _, _, _, r, _⟩ => r.len.trans hl) fun cdv A outer s H vs Q E hg hr ⟨S, pen, args, n, Pd, PX, hl, dom, hp, htb, hmu, r, q, hq, hx⟩ => ?_
  obtain ⟨b, rfl, hn, hb0, hb1, q⟩ := drawM_inv q
  obtain ⟨v1, ws1, rfl, ⟨p, rfl, rfl⟩, v2, ws2, rfl, e4, e5⟩ := r
  obtain rfl : ws2 = [] := e5
  obtain rfl : v2 = V.int b := e4
  obtain ⟨⟨hne, cs, t, g, ha, hb, hcs, ht, htn, hg0⟩, nS1, nS2⟩ := hp p rfl
  obtain ⟨a, ca⟩ := p
  have nd := sc_draw.nd
  have t0 : (0 : Int) ≤ t * t := Int.mul_nonneg ht ht
  have t1 : t * t ≤ 4000000 * 4000000 := sq_le ht (by unfold drawMax at hn; omega)
  have t2 : t < 4000000 := by unfold drawMax at hn; omega
  -- the end, from any cell
  obtain ⟨u2, U2, hU2⟩ : ∃ u, PSs (cxOf (L2.CX P w) P w K mg base ["_law_feed_here", "_law_bound", "_law_digit", "_law_turn", "_law_cell", "_law_great", "_law_mixed"] "_law_take" (defScope sDraw) f cdv A outer s H E) ((defBody sDraw).drop 6) u ∧
      ∀ (z : Int) (H2 : Hp), H2 a = some (.lst [.ref ca, .int (t + 1), .int g]) → (∀ x o, x ≠ a → H x = some o → H2 x = some o) → u { nx := fun _ H' => Q .non H', rt := Q } [some (.ref a), some (.int b), none, some (.int t), some (.int z), none, none] H2 := by
    refine ⟨_, pss_cons (ps_set (i := 6) nd rfl (.inl rfl) (pe_op op_mod (pe_op op_pow (pe_op op_add (pe_op op_add (pe_op op_add (pe_op op_mod (pv 4) pe_int) (pe_op op_mul (pe_op op_mul pe_int (pv 3)) (pv 3))) (pe_op op_mul pe_int (pv 3))) pe_int) pe_int) pe_int))
    (pss_cons (ps_set (i := 6) nd rfl (.inl rfl) (pe_op op_mod (pe_op op_pow (pe_op op_add (pe_op op_add (pe_op op_mul (pv 6) (pe_op op_add (pe_op op_mul pe_int (pv 3)) pe_int)) (pe_op op_mul pe_int (pv 3))) pe_int) pe_int) pe_int))
    (pss_one (ps_ret (pe_op op_mod (pe_op op_fdiv (pv 6) pe_int) (pv 1))))), fun z H2 h2a h2 => ?_⟩
    have m0 : ∀ y M : Int, 0 < M → 0 ≤ y % M ∧ y % M < M := fun y M h => ⟨Int.emod_nonneg _ (by omega), Int.emod_lt_of_pos _ h⟩
    refine ⟨_, rfl, _, _, rfl, rfl, (by show (0 : Int) < _; decide), _, rfl, _, _, rfl, rfl, .inr ⟨by omega, by omega⟩, _, rfl, _, _, rfl, rfl, .inr ⟨by omega, by omega⟩, _, _, rfl, rfl, ?_⟩
    refine ⟨_, rfl, _, _, rfl, rfl, .inr ⟨by omega, by omega⟩, _, _, rfl, rfl, _, _, rfl, rfl, ?_⟩
    rw [Int.mul_assoc]
    have q1 := m0 z 2147483563 (by decide)
    refine ⟨_, _, rfl, rfl, ⟨by decide, by decide, by omega⟩, _, _, rfl, rfl, (by show (0 : Int) < _; decide), ?_⟩
    have q2 : 0 ≤ ((z % 2147483563 + 40093 * (t * t) + 30089 * t + 13) ^ (5 : Int).toNat % 2147483647) ∧ ((z % 2147483563 + 40093 * (t * t) + 30089 * t + 13) ^ (5 : Int).toNat % 2147483647) < 2147483647 := m0 _ _ (by decide)
    refine ⟨_, rfl, _, rfl, _, _, rfl, rfl, .inr ⟨by omega, by omega⟩, _, _, rfl, rfl, _, _, rfl, rfl, .inl ⟨by omega, by omega⟩, ?_⟩
    have q3 : 0 ≤ ((z % 2147483563 + 40093 * (t * t) + 30089 * t + 13) ^ (5 : Int).toNat % 2147483647) * (2 * t + 29) ∧ ((z % 2147483563 + 40093 * (t * t) + 30089 * t + 13) ^ (5 : Int).toNat % 2147483647) * (2 * t + 29) ≤ 2147483647 * 8000100 := ⟨Int.mul_nonneg q2.1 (by omega), Int.mul_le_mul (by omega) (by omega) (by omega) (by omega)⟩
    refine ⟨_, rfl, _, _, rfl, rfl, .inr ⟨by omega, by omega⟩, _, _, rfl, rfl, _, _, rfl, rfl, ⟨_, _, rfl, rfl, ⟨by decide, by decide, by omega⟩, _, _, rfl, rfl, (by show (0 : Int) < _; decide), ?_⟩⟩
    refine ⟨_, rfl, _, _, rfl, rfl, ⟨by decide, by decide⟩, _, rfl, _, _, rfl, rfl, hb0, ?_⟩
    exact hq (.int _) ⟨n.n + 1, n.μ⟩ _ S H2 (q _ (n.n + 1) (Int.emod_nonneg _ (by omega)) (Int.emod_lt_of_pos _ hb0) (by omega) (Nat.le_refl _)) (After.drawW hne dom (by rw [ha]; exact fun z => nomatch z) nS1 nS2 hb htb ⟨_, ha⟩ hmu h2 h2a hcs (by omega) (by omega) hg0) rfl
  -- the rest, from any cell
  obtain ⟨u, U, hU⟩ : ∃ u, PSs (cxOf (L2.CX P w) P w K mg base ["_law_feed_here", "_law_bound", "_law_digit", "_law_turn", "_law_cell", "_law_great", "_law_mixed"] "_law_take" (defScope sDraw) f cdv A outer s H E) ((defBody sDraw).drop 5) u ∧
      ∀ (z : Int) (H2 : Hp), H2 a = some (.lst [.ref ca, .int (t + 1), .int g]) → (∀ x o, x ≠ a → H x = some o → H2 x = some o) → u { nx := fun _ H' => Q .non H', rt := Q } [some (.ref a), some (.int b), none, some (.int t), some (.int z), none, none] H2 := by
    refine ⟨_, pss_cons (ps_if (PW.pt (pw_and (pt_cmpR op_lt (pv 3) (pe_callB call_len_seq (by rfl) ml PySem.boot_len (pa_cons (pe_ix ix_list (pv 0) pe_int (fun _ _ => rfl)) pa_nil)) (nomark _))
        (pw_and1 (pt_cmpR op_ge (pe_callB call_abs (by rfl) mb PyProof.Rows.boot_abs (pa_cons (pv 4) pa_nil)) (pe_op op_pow pe_int pe_int) (nomark _)))))
      (pss_cons (ps_set (i := 5) nd rfl (.inl rfl) (pe_op op_add (pe_op op_mul pe_int (pe_op op_sub (pe_callB call_abs (by rfl) mb PyProof.Rows.boot_abs (pa_cons (pv 4) pa_nil)) (pe_op op_pow pe_int pe_int))) (pe_callTy call_int1 (by rfl) mi PyProof.Rows.boot_int (pa_cons (pe_cmpR op_lt (pv 4) pe_int (nomark _)) pa_nil))))
      (pss_cons (ps_asg (pe_op op_fdiv (pv 5) (pv 1)) (pg_sub (pv 0) pe_int set_list))
      (pss_one (ps_ret (pe_op op_mod (pv 5) (pv 1)))))) pss_nil) U2, fun z H2 h2a h2 => ?_⟩
    have h2b : SqL K H2 ca (cs.map V.int) := SqL.of (h2 ca _ (Ne.symm hne) hb)
    refine ⟨_, rfl, rd_ix 0 rfl h2a rfl ⟨ca, _, rfl, .inl h2b, _, _, rfl, rfl, _, rfl, ite2 (fun _ => ?_) (fun _ => iteF (hU2 z H2 h2a h2))⟩⟩
    refine ⟨_, rfl, z, rfl, _, _, rfl, rfl, ⟨by decide, by decide, by decide⟩, _, _, rfl, rfl, _, rfl, ite2 (fun hc => ?_) (fun _ => hU2 z H2 h2a h2)⟩
    have hc' := of_decide_eq_true hc
    -- a great cell
    refine ⟨_, rfl, z, rfl, _, _, rfl, rfl, ⟨by decide, by decide, by decide⟩, _, _, rfl, rfl, _, _, rfl, rfl, .inl ⟨by decide, by decide⟩, ?_⟩
    refine ⟨_, rfl, _, _, rfl, rfl, .inr ⟨_, rfl, _, _, rfl, rfl, ?_⟩⟩
    have hgg : 0 ≤ 2 * ((if z < 0 then -z else z) - 10 ^ (18 : Int).toNat) + (if decide (z < 0) = true then 1 else 0) := by
      have : (0 : Int) ≤ if decide (z < 0) = true then 1 else 0 := by split <;> omega
      omega
    refine ⟨_, rfl, _, rfl, _, _, rfl, rfl, ⟨hb0, hb1⟩, wr_ix 2 rfl h2a (Nat.lt_succ_self _) ⟨_, rfl, _, rfl, _, _, rfl, rfl, hb0, ?_⟩⟩
    exact hq (.int _) ⟨n.n + 1, n.μ⟩ _ S _ (q _ (n.n + 1) (Int.emod_nonneg _ (by omega)) (Int.emod_lt_of_pos _ hb0) (by omega) (Nat.le_refl _)) (After.drawW hne dom (by rw [ha]; exact fun z => nomatch z) nS1 nS2 hb htb ⟨_, ha⟩ hmu (fun x o hx e => by rw [upd_ne hx]; exact h2 x o hx e) upd_same hcs (by omega) (by omega) (Int.ediv_nonneg hgg (by omega))) rfl
  refine ⟨_, pss_cons (ps_if (pt_cmpR op_gt (pe_ix ix_list (pv 0) pe_int (fun _ _ => rfl)) pe_int (nomark _))
      (pss_cons (ps_set (i := 2) nd rfl (.inl rfl) (pe_op op_mod (pe_ix ix_list (pv 0) pe_int (fun _ _ => rfl)) (pv 1)))
      (pss_cons (ps_asg (pe_op op_fdiv (pe_ix ix_list (pv 0) pe_int (fun _ _ => rfl)) (pv 1)) (pg_sub (pv 0) pe_int set_list))
      (pss_one (ps_ret (pv 2))))) pss_nil)
    (pss_cons (ps_set (i := 3) nd rfl (.inl rfl) (pe_ix ix_list (pv 0) pe_int (fun _ _ => rfl)))
    (pss_cons (ps_asg (pe_op op_add (pv 3) pe_int) (pg_sub (pv 0) pe_int set_list))
    (pss_cons (ps_set (i := 4) nd rfl (.inl rfl) (pe_op op_add (pe_op op_mul pe_int (pv 3)) pe_int))
    (pss_cons (ps_if (pt_cmpR (op_neD (u64 hr)) (pe_ix ix_list (pv 0) pe_int (fun _ _ => rfl)) (pe_lst pa_nil) (nomark _))
      (pss_one (ps_set (i := 4) nd rfl (.inl rfl) (pe_ix ix_list (pe_ix ix_list (pv 0) pe_int (fun _ _ => rfl)) (pe_op op_mod (pv 3) (pe_callB call_len_seq (by rfl) ml PySem.boot_len (pa_cons (pe_ix ix_list (pv 0) pe_int (fun _ _ => rfl)) pa_nil))) (fun _ _ => rfl)))) pss_nil) U)))), ?_⟩
  refine rd_ix 2 rfl ha rfl ⟨_, _, rfl, rfl, _, rfl, ite2 (fun hc => ?_) (fun hc => ?_)⟩
  · -- a digit of the rest
    refine rd_ix 2 rfl ha rfl ⟨_, rfl, _, _, rfl, rfl, hb0, rd_ix 2 rfl ha rfl ⟨_, rfl, _, _, rfl, rfl, ⟨hb0, hb1⟩, wr_ix 2 rfl ha (Nat.lt_succ_self _) ⟨_, rfl, ?_⟩⟩⟩
    exact hq (.int (g % b)) ⟨n.n, n.μ⟩ _ S _ (q _ n.n (Int.emod_nonneg _ (by omega)) (Int.emod_lt_of_pos _ hb0) (Nat.le_refl _) (by omega)) (After.drawW hne dom (by rw [ha]; exact fun z => nomatch z) nS1 nS2 hb htb ⟨_, ha⟩ hmu (fun x o hx e => by rw [upd_ne hx]; exact e) upd_same hcs ht htn (Int.ediv_nonneg hg0 (by omega))) rfl
  · refine rd_ix 1 rfl ha rfl ⟨_, rfl, _, _, rfl, rfl, wr_ix 1 rfl ha (by show 1 < 3; omega) ?_⟩
    refine ⟨_, rfl, _, _, rfl, rfl, .inr ⟨by omega, by omega⟩, _, _, rfl, rfl, ?_⟩
    have ha1 : upd H a (.lst [.ref ca, .int (t + 1), .int g]) a = some (.lst [.ref ca, .int (t + 1), .int g]) := upd_same
    have h1 : ∀ x o, x ≠ a → H x = some o → upd H a (.lst [.ref ca, .int (t + 1), .int g]) x = some o := fun x o hx e => by rw [upd_ne hx]; exact e
    refine rd_ix 0 rfl ha1 rfl ⟨Nat.zero_le _, fun p hp => ?_⟩
    have ap : a ≠ p := ne_of_none ha1 hp
    have ha2 : upd (upd H a (.lst [.ref ca, .int (t + 1), .int g])) p (.lst []) a = some (.lst [.ref ca, .int (t + 1), .int g]) := by rw [upd_ne ap]; exact ha1
    have h2 : ∀ x o, x ≠ a → H x = some o → upd (upd H a (.lst [.ref ca, .int (t + 1), .int g])) p (.lst []) x = some o := fun x o hx e => by
      have e1 := h1 x o hx e
      rw [upd_ne (ne_of_none e1 hp)]
      exact e1
    have hb2 := h2 ca _ (Ne.symm hne) hb
    refine ⟨.list (cs.map PyData.int), .list [], .lst (SqL.of hb2) (dp_ints cs), .lst (SqL.of upd_same) .nil, shaped_ints cs, by decide +kernel, _, rfl, ite2 (fun he => ?_) (fun he => hU _ _ ha2 h2)⟩
    rw [eqv_nil] at he
    have hpos : 0 < cs.length := by
      cases cs with
      | nil => simp at he
      | cons _ _ => exact Nat.zero_lt_succ _
    have hm0 := Int.emod_nonneg t (show (cs.length : Int) ≠ 0 by omega)
    have hm1 := Int.emod_lt_of_pos t (show (0 : Int) < cs.length by omega)
    obtain ⟨m, hm⟩ : ∃ m : Nat, t % (cs.length : Int) = m := ⟨(t % (cs.length : Int)).toNat, by omega⟩
    have hml : m < cs.length := by omega
    refine rd_ix 0 rfl ha2 rfl ⟨_, rfl, rd_ix 0 rfl ha2 rfl ⟨ca, _, rfl, .inl (SqL.of hb2), _, _, rfl, rfl, by rw [List.length_map]; omega, ca, _, _, .int cs[m], rfl, rfl, SqL.of hb2, ?_, hU _ _ ha2 h2⟩⟩
    rw [List.length_map, hm]
    exact atI_nat (by rw [List.getElem?_map, List.getElem?_eq_getElem hml]; rfl)
set_option maxHeartbeats 0 in
theorem ok_l_feed {f : Addr} {fd : FuncData} {T : List (Addr × Str)} {mgl : Str → Option Value} {bb : Bool} (F : Fun K "_law_feed" "_law_feed" (topS 32) f fd) (ml : mg "list" = none) : FnG P w K mg base 1 f fd ["_law_script"] (spFeedK ((penG.wt T mgl).wc bb) K) := by
  have sc : FnScope ["_law_script"] ["_law_script"] (defScope (topS 32)) := ⟨rfl, rfl, rfl, by decide +kernel, rfl, by decide +kernel, by decide +kernel⟩
  refine FnG.of_body F sc (fun vs H Q E ⟨a, ns, e, _⟩ => by rw [e]; rfl) fun cdv A outer s H vs Q E hg hr ⟨a, ns, e, hS, hl, q⟩ => ?_
  subst e
  refine ⟨_, pss_one (ps_ret (pe_lst (pa_cons (pe_callTy call_list_of (by rfl) ml PyProof.Rows.boot_list (pa_cons (pe_slice sl_list (pv 0) po_none (po_some pe_int)) pa_nil)) (pa_cons pe_int (pa_cons pe_int pa_nil))))), ?_⟩
  refine ⟨.ref a, rfl, ?_⟩
  have hc : cutV (ns.map V.int) none (some 63) = ns.map V.int := by
    unfold cutV
    rw [HT.sIx_none, show (63 : Int) = ((63 : Nat) : Int) from rfl, HT.sIx_nat, List.length_map, Nat.min_eq_right hl, Nat.sub_zero, List.drop_zero, List.take_of_length_le (by rw [List.length_map]; exact Nat.le_refl _)]
  refine ⟨63, rfl, a, _, rfl, hS, fun b hb => ⟨b, _, rfl, .inl (SqL.of upd_same), fun l hl2 => ⟨(by show 3 ≤ sizeLine; rw [sizeLine_eq]; decide), fun p hp => ?_⟩⟩⟩
  rw [hc] at hl2 hp ⊢
  have lp : l ≠ p := fun z => by rw [z, upd_same] at hp; cases hp
  have sm : ∀ x o, H x = some o → upd (upd (upd H b (.lst (ns.map V.int))) l (.lst (ns.map V.int))) p (.lst [.ref l, .int 0, .int 0]) x = some o := fun x o e => by
    have e1 : upd H b (.lst (ns.map V.int)) x = some o := by rw [upd_ne (ne_of_none e hb)]; exact e
    have e2 : upd (upd H b (.lst (ns.map V.int))) l (.lst (ns.map V.int)) x = some o := by rw [upd_ne (ne_of_none e1 hl2)]; exact e1
    rw [upd_ne (ne_of_none e2 hp)]
    exact e2
  exact q _ p l ⟨Ne.symm lp, ns, 0, 0, upd_same, (by rw [upd_ne lp]; exact upd_same), hl, Int.le_refl _, Int.le_refl _, Int.le_refl _⟩ fun P ps e => sm P _ e
end
abbrev s_is_integer : Stmt := topS 16
abbrev s_is_between : Stmt := topS 17
abbrev s_is_word : Stmt := topS 18
abbrev s_is_value : Stmt := topS 19
abbrev s_are_pairs : Stmt := topS 20
abbrev s_is_store : Stmt := topS 21
abbrev s_number_in : Stmt := topS 26
abbrev s_need_text : Stmt := topS 27
abbrev s_store_in : Stmt := topS 28
abbrev s_mark_in : Stmt := topS 29
abbrev s_read_state : Stmt := topS 30
abbrev s_l_feed : Stmt := topS 32
abbrev s_l_take : Stmt := topS 33
abbrev s_l_word : Stmt := topS 34
abbrev s_l_number : Stmt := topS 35
abbrev s_l_pairs : Stmt := topS 36
abbrev s_l_state : Stmt := topS 37
abbrev s_l_is_word : Stmt := topS 38
abbrev s_l_is_number : Stmt := topS 39
abbrev s_l_full_text : Stmt := topS 41
abbrev s_l_state_text : Stmt := topS 42
abbrev s_l_number_in : Stmt := topS 43
abbrev s_l_bent_text : Stmt := topS 46
abbrev s_l_heard : Stmt := topS 47
abbrev s_l_full_in : Stmt := topS 48
abbrev s_l_due : Stmt := topS 49
abbrev s_law : Stmt := topS 50
abbrev sc_is_integer_N : List Str := ["value"]
theorem sc_is_integer : FnScope sc_is_integer_N ["value"] (defScope s_is_integer) := ⟨rfl, rfl, rfl, by decide +kernel, rfl, by decide +kernel, by decide +kernel⟩
abbrev sc_is_between_N : List Str := ["value", "least", "most"]
theorem sc_is_between : FnScope sc_is_between_N ["value", "least", "most"] (defScope s_is_between) := ⟨rfl, rfl, rfl, by decide +kernel, rfl, by decide +kernel, by decide +kernel⟩
abbrev sc_is_word_N : List Str := ["value", "sign"]
theorem sc_is_word : FnScope sc_is_word_N ["value"] (defScope s_is_word) := ⟨rfl, rfl, rfl, by decide +kernel, rfl, by decide +kernel, by decide +kernel⟩
abbrev sc_is_value_N : List Str := ["value"]
theorem sc_is_value : FnScope sc_is_value_N ["value"] (defScope s_is_value) := ⟨rfl, rfl, rfl, by decide +kernel, rfl, by decide +kernel, by decide +kernel⟩
abbrev sc_are_pairs_N : List Str := ["value", "last", "pair"]
theorem sc_are_pairs : FnScope sc_are_pairs_N ["value"] (defScope s_are_pairs) := ⟨rfl, rfl, rfl, by decide +kernel, rfl, by decide +kernel, by decide +kernel⟩
abbrev sc_is_store_N : List Str := ["value", "pair"]
theorem sc_is_store : FnScope sc_is_store_N ["value"] (defScope s_is_store) := ⟨rfl, rfl, rfl, by decide +kernel, rfl, by decide +kernel, by decide +kernel⟩
abbrev sc_number_in_N : List Str := ["text", "digits", "sign"]
theorem sc_number_in : FnScope sc_number_in_N ["text"] (defScope s_number_in) := ⟨rfl, rfl, rfl, by decide +kernel, rfl, by decide +kernel, by decide +kernel⟩
abbrev sc_need_text_N : List Str := ["text"]
theorem sc_need_text : FnScope sc_need_text_N ["text"] (defScope s_need_text) := ⟨rfl, rfl, rfl, by decide +kernel, rfl, by decide +kernel, by decide +kernel⟩
abbrev sc_store_in_N : List Str := ["text", "found", "part", "key", "sign", "number"]
theorem sc_store_in : FnScope sc_store_in_N ["text"] (defScope s_store_in) := ⟨rfl, rfl, rfl, by decide +kernel, rfl, by decide +kernel, by decide +kernel⟩
abbrev sc_mark_in_N : List Str := ["text", "name", "sign", "rest", "store"]
theorem sc_mark_in : FnScope sc_mark_in_N ["text"] (defScope s_mark_in) := ⟨rfl, rfl, rfl, by decide +kernel, rfl, by decide +kernel, by decide +kernel⟩
abbrev sc_read_state_N : List Str := ["text", "first", "rest", "store", "pile", "number", "line", "mark"]
theorem sc_read_state : FnScope sc_read_state_N ["text"] (defScope s_read_state) := ⟨rfl, rfl, rfl, by decide +kernel, rfl, by decide +kernel, by decide +kernel⟩
abbrev sc_l_word_N : List Str := ["_law_feed_here", "_law_many", "_law_k"]
theorem sc_l_word : FnScope sc_l_word_N ["_law_feed_here"] (defScope s_l_word) := ⟨rfl, rfl, rfl, by decide +kernel, rfl, by decide +kernel, by decide +kernel⟩
abbrev sc_l_number_N : List Str := ["_law_feed_here", "_law_near"]
theorem sc_l_number : FnScope sc_l_number_N ["_law_feed_here"] (defScope s_l_number) := ⟨rfl, rfl, rfl, by decide +kernel, rfl, by decide +kernel, by decide +kernel⟩
abbrev sc_l_pairs_N : List Str := ["_law_feed_here", "_law_most", "_law_rare", "_law_found", "_law_turn", "_law_label"]
theorem sc_l_pairs : FnScope sc_l_pairs_N ["_law_feed_here", "_law_most", "_law_rare"] (defScope s_l_pairs) := ⟨rfl, rfl, rfl, by decide +kernel, rfl, by decide +kernel, by decide +kernel⟩
abbrev sc_l_state_N : List Str := ["_law_feed_here", "_law_most", "_law_keys", "_law_pile", "_law_turn"]
theorem sc_l_state : FnScope sc_l_state_N ["_law_feed_here", "_law_most", "_law_keys"] (defScope s_l_state) := ⟨rfl, rfl, rfl, by decide +kernel, rfl, by decide +kernel, by decide +kernel⟩
abbrev sc_l_is_word_N : List Str := ["_law_thing", "_law_sign"]
theorem sc_l_is_word : FnScope sc_l_is_word_N ["_law_thing"] (defScope s_l_is_word) := ⟨rfl, rfl, rfl, by decide +kernel, rfl, by decide +kernel, by decide +kernel⟩
abbrev sc_l_is_number_N : List Str := ["_law_thing"]
theorem sc_l_is_number : FnScope sc_l_is_number_N ["_law_thing"] (defScope s_l_is_number) := ⟨rfl, rfl, rfl, by decide +kernel, rfl, by decide +kernel, by decide +kernel⟩
abbrev sc_l_full_text_N : List Str := ["_law_full", "_law_label", "_law_entry"]
theorem sc_l_full_text : FnScope sc_l_full_text_N ["_law_full"] (defScope s_l_full_text) := ⟨rfl, rfl, rfl, by decide +kernel, rfl, by decide +kernel, by decide +kernel⟩
abbrev sc_l_state_text_N : List Str := ["_law_now", "_law_rows", "_law_k", "_law_label", "_law_full"]
theorem sc_l_state_text : FnScope sc_l_state_text_N ["_law_now"] (defScope s_l_state_text) := ⟨rfl, rfl, rfl, by decide +kernel, rfl, by decide +kernel, by decide +kernel⟩
abbrev sc_l_number_in_N : List Str := ["_law_part", "_law_digits", "_law_sign"]
theorem sc_l_number_in : FnScope sc_l_number_in_N ["_law_part"] (defScope s_l_number_in) := ⟨rfl, rfl, rfl, by decide +kernel, rfl, by decide +kernel, by decide +kernel⟩
abbrev sc_l_bent_text_N : List Str := ["_law_feed_here", "_law_whole", "_law_spot", "_law_sign", "_law_parts", "_law_place", "_law_some"]
theorem sc_l_bent_text : FnScope sc_l_bent_text_N ["_law_feed_here", "_law_whole"] (defScope s_l_bent_text) := ⟨rfl, rfl, rfl, by decide +kernel, rfl, by decide +kernel, by decide +kernel⟩
abbrev sc_l_heard_N : List Str := ["_law_ask", "_law_found", "_law_caught", "error"]
theorem sc_l_heard : FnScope sc_l_heard_N ["_law_ask"] (defScope s_l_heard) := ⟨rfl, rfl, rfl, by decide +kernel, rfl, by decide +kernel, by decide +kernel⟩
abbrev sc_l_full_in_N : List Str := ["_law_row", "_law_found", "_law_part", "_law_parts"]
theorem sc_l_full_in : FnScope sc_l_full_in_N ["_law_row"] (defScope s_l_full_in) := ⟨rfl, rfl, rfl, by decide +kernel, rfl, by decide +kernel, by decide +kernel⟩
abbrev sc_l_due_N : List Str := ["_law_thing", "_law_rows", "_law_pile", "_law_k", "_law_label", "_law_sign", "_law_rest"]
theorem sc_l_due : FnScope sc_l_due_N ["_law_thing"] (defScope s_l_due) := ⟨rfl, rfl, rfl, by decide +kernel, rfl, by decide +kernel, by decide +kernel⟩
abbrev sc_law_N : List Str := ["_law_script", "_law_feed_here", "_law_turn", "_law_now", "_law_whole", "_law_bent", "_law_things", "_law_part", "_law_due_here", "_law_full", "_law_words", "_law_thing", "_law_k"]
theorem sc_law : FnScope sc_law_N ["_law_script"] (defScope s_law) := ⟨rfl, rfl, rfl, by decide +kernel, rfl, by decide +kernel, by decide +kernel⟩
set_option maxHeartbeats 0 in
structure Facts (K : PySem.W.Frag) (mg : Str → Option Value) where
  z_ValueError : mg "ValueError" = none
  z_abs : mg "abs" = none
  z_all : mg "all" = none
  z_bool : mg "bool" = none
  z_enumerate : mg "enumerate" = none
  z_int : mg "int" = none
  z_isinstance : mg "isinstance" = none
  z_len : mg "len" = none
  z_list : mg "list" = none
  z_range : mg "range" = none
  z_repr : mg "repr" = none
  z_sorted : mg "sorted" = none
  z_str : mg "str" = none
  z_tuple : mg "tuple" = none
  c_DIGITS : ∃ t, mg "DIGITS" = some (.str "0123456789" t)
  c_GREATEST_VALUE : ∃ t, mg "GREATEST_VALUE" = some (.int 1000000000000000000 t)
  c_LETTERS : ∃ t, mg "LETTERS" = some (.str "abcdefghijklmnopqrstuvwxyz" t)
  c_LONGEST_WORD : ∃ t, mg "LONGEST_WORD" = some (.int 8 t)
  c_MOST_DIGITS : ∃ t, mg "MOST_DIGITS" = some (.int 60 t)
  c_NOTHING : ∃ t, mg "NOTHING" = some (.str "-" t)
  C_RewindError : Addr
  m_RewindError : mg "RewindError" = some (.ref C_RewindError)
  C_InvalidState : Addr
  m_InvalidState : mg "InvalidState" = some (.ref C_InvalidState)
  C_InvalidScript : Addr
  m_InvalidScript : mg "InvalidScript" = some (.ref C_InvalidScript)
  C_InvalidCommand : Addr
  m_InvalidCommand : mg "InvalidCommand" = some (.ref C_InvalidCommand)
  C_InvalidProgram : Addr
  m_InvalidProgram : mg "InvalidProgram" = some (.ref C_InvalidProgram)
  C_InvalidText : Addr
  m_InvalidText : mg "InvalidText" = some (.ref C_InvalidText)
  C_InvalidLine : Addr
  m_InvalidLine : mg "InvalidLine" = some (.ref C_InvalidLine)
  C_Refused : Addr
  m_Refused : mg "Refused" = some (.ref C_Refused)
  C_Full : Addr
  m_Full : mg "Full" = some (.ref C_Full)
  C_TooLong : Addr
  m_TooLong : mg "TooLong" = some (.ref C_TooLong)
  C_TooLarge : Addr
  m_TooLarge : mg "TooLarge" = some (.ref C_TooLarge)
  er_InvalidText : ErrK K mg "InvalidText" "position"
  ei : ErrI K mg errT [(Str.ofString "RewindError", .ref C_RewindError), (Str.ofString "Refused", .ref C_Refused), (Str.ofString "Full", .ref C_Full), (Str.ofString "TooLong", .ref C_TooLong), (Str.ofString "TooLarge", .ref C_TooLarge), (Str.ofString "InvalidScript", .ref C_InvalidScript), (Str.ofString "InvalidState", .ref C_InvalidState), (Str.ofString "InvalidProgram", .ref C_InvalidProgram), (Str.ofString "InvalidCommand", .ref C_InvalidCommand), (Str.ofString "InvalidLine", .ref C_InvalidLine), (Str.ofString "InvalidText", .ref C_InvalidText), (Str.ofString "ValueError", .type "ValueError")]
  fo_position : FldOk K mg [Str.ofString "InvalidText"] "position"
  f_is_integer : Addr
  d_is_integer : FuncData
  F_is_integer : Fun K "is_integer" "is_integer" s_is_integer f_is_integer d_is_integer
  g_is_integer : mg "is_integer" = some (.ref f_is_integer)
  B_is_integer : Binds K d_is_integer ["value"] []
  f_is_between : Addr
  d_is_between : FuncData
  F_is_between : Fun K "is_between" "is_between" s_is_between f_is_between d_is_between
  g_is_between : mg "is_between" = some (.ref f_is_between)
  B_is_between : Binds K d_is_between ["value", "least", "most"] []
  f_is_word : Addr
  d_is_word : FuncData
  F_is_word : Fun K "is_word" "is_word" s_is_word f_is_word d_is_word
  g_is_word : mg "is_word" = some (.ref f_is_word)
  B_is_word : Binds K d_is_word ["value"] []
  f_is_value : Addr
  d_is_value : FuncData
  F_is_value : Fun K "is_value" "is_value" s_is_value f_is_value d_is_value
  g_is_value : mg "is_value" = some (.ref f_is_value)
  B_is_value : Binds K d_is_value ["value"] []
  f_are_pairs : Addr
  d_are_pairs : FuncData
  F_are_pairs : Fun K "are_pairs" "are_pairs" s_are_pairs f_are_pairs d_are_pairs
  g_are_pairs : mg "are_pairs" = some (.ref f_are_pairs)
  B_are_pairs : Binds K d_are_pairs ["value"] []
  f_is_store : Addr
  d_is_store : FuncData
  F_is_store : Fun K "is_store" "is_store" s_is_store f_is_store d_is_store
  g_is_store : mg "is_store" = some (.ref f_is_store)
  B_is_store : Binds K d_is_store ["value"] []
  f_number_in : Addr
  d_number_in : FuncData
  F_number_in : Fun K "number_in" "number_in" s_number_in f_number_in d_number_in
  g_number_in : mg "number_in" = some (.ref f_number_in)
  B_number_in : Binds K d_number_in ["text"] []
  f_need_text : Addr
  d_need_text : FuncData
  F_need_text : Fun K "need_text" "need_text" s_need_text f_need_text d_need_text
  g_need_text : mg "need_text" = some (.ref f_need_text)
  B_need_text : Binds K d_need_text ["text"] []
  f_store_in : Addr
  d_store_in : FuncData
  F_store_in : Fun K "store_in" "store_in" s_store_in f_store_in d_store_in
  g_store_in : mg "store_in" = some (.ref f_store_in)
  B_store_in : Binds K d_store_in ["text"] []
  f_mark_in : Addr
  d_mark_in : FuncData
  F_mark_in : Fun K "mark_in" "mark_in" s_mark_in f_mark_in d_mark_in
  g_mark_in : mg "mark_in" = some (.ref f_mark_in)
  B_mark_in : Binds K d_mark_in ["text"] []
  f_read_state : Addr
  d_read_state : FuncData
  F_read_state : Fun K "read_state" "read_state" s_read_state f_read_state d_read_state
  g_read_state : mg "read_state" = some (.ref f_read_state)
  B_read_state : Binds K d_read_state ["text"] []
  f_l_feed : Addr
  d_l_feed : FuncData
  F_l_feed : Fun K "_law_feed" "_law_feed" s_l_feed f_l_feed d_l_feed
  g_l_feed : mg "_law_feed" = some (.ref f_l_feed)
  B_l_feed : Binds K d_l_feed ["_law_script"] []
  f_l_take : Addr
  d_l_take : FuncData
  F_l_take : Fun K "_law_take" "_law_take" s_l_take f_l_take d_l_take
  g_l_take : mg "_law_take" = some (.ref f_l_take)
  B_l_take : Binds K d_l_take ["_law_feed_here", "_law_bound"] []
  f_l_word : Addr
  d_l_word : FuncData
  F_l_word : Fun K "_law_word" "_law_word" s_l_word f_l_word d_l_word
  g_l_word : mg "_law_word" = some (.ref f_l_word)
  B_l_word : Binds K d_l_word ["_law_feed_here"] []
  f_l_number : Addr
  d_l_number : FuncData
  F_l_number : Fun K "_law_number" "_law_number" s_l_number f_l_number d_l_number
  g_l_number : mg "_law_number" = some (.ref f_l_number)
  B_l_number : Binds K d_l_number ["_law_feed_here"] []
  f_l_pairs : Addr
  d_l_pairs : FuncData
  F_l_pairs : Fun K "_law_pairs" "_law_pairs" s_l_pairs f_l_pairs d_l_pairs
  g_l_pairs : mg "_law_pairs" = some (.ref f_l_pairs)
  B_l_pairs : Binds K d_l_pairs ["_law_feed_here", "_law_most", "_law_rare"] []
  f_l_state : Addr
  d_l_state : FuncData
  F_l_state : Fun K "_law_state" "_law_state" s_l_state f_l_state d_l_state
  g_l_state : mg "_law_state" = some (.ref f_l_state)
  B_l_state : Binds K d_l_state ["_law_feed_here", "_law_most", "_law_keys"] []
  f_l_is_word : Addr
  d_l_is_word : FuncData
  F_l_is_word : Fun K "_law_is_word" "_law_is_word" s_l_is_word f_l_is_word d_l_is_word
  g_l_is_word : mg "_law_is_word" = some (.ref f_l_is_word)
  B_l_is_word : Binds K d_l_is_word ["_law_thing"] []
  f_l_is_number : Addr
  d_l_is_number : FuncData
  F_l_is_number : Fun K "_law_is_number" "_law_is_number" s_l_is_number f_l_is_number d_l_is_number
  g_l_is_number : mg "_law_is_number" = some (.ref f_l_is_number)
  B_l_is_number : Binds K d_l_is_number ["_law_thing"] []
  f_l_full_text : Addr
  d_l_full_text : FuncData
  F_l_full_text : Fun K "_law_full_text" "_law_full_text" s_l_full_text f_l_full_text d_l_full_text
  g_l_full_text : mg "_law_full_text" = some (.ref f_l_full_text)
  B_l_full_text : Binds K d_l_full_text ["_law_full"] []
  f_l_state_text : Addr
  d_l_state_text : FuncData
  F_l_state_text : Fun K "_law_state_text" "_law_state_text" s_l_state_text f_l_state_text d_l_state_text
  g_l_state_text : mg "_law_state_text" = some (.ref f_l_state_text)
  B_l_state_text : Binds K d_l_state_text ["_law_now"] []
  f_l_number_in : Addr
  d_l_number_in : FuncData
  F_l_number_in : Fun K "_law_number_in" "_law_number_in" s_l_number_in f_l_number_in d_l_number_in
  g_l_number_in : mg "_law_number_in" = some (.ref f_l_number_in)
  B_l_number_in : Binds K d_l_number_in ["_law_part"] []
  f_l_bent_text : Addr
  d_l_bent_text : FuncData
  F_l_bent_text : Fun K "_law_bent_text" "_law_bent_text" s_l_bent_text f_l_bent_text d_l_bent_text
  g_l_bent_text : mg "_law_bent_text" = some (.ref f_l_bent_text)
  B_l_bent_text : Binds K d_l_bent_text ["_law_feed_here", "_law_whole"] []
  f_l_heard : Addr
  d_l_heard : FuncData
  F_l_heard : Fun K "_law_heard" "_law_heard" s_l_heard f_l_heard d_l_heard
  g_l_heard : mg "_law_heard" = some (.ref f_l_heard)
  B_l_heard : Binds K d_l_heard ["_law_ask"] []
  f_l_full_in : Addr
  d_l_full_in : FuncData
  F_l_full_in : Fun K "_law_full_in" "_law_full_in" s_l_full_in f_l_full_in d_l_full_in
  g_l_full_in : mg "_law_full_in" = some (.ref f_l_full_in)
  B_l_full_in : Binds K d_l_full_in ["_law_row"] []
  f_l_due : Addr
  d_l_due : FuncData
  F_l_due : Fun K "_law_due" "_law_due" s_l_due f_l_due d_l_due
  g_l_due : mg "_law_due" = some (.ref f_l_due)
  B_l_due : Binds K d_l_due ["_law_thing"] []
  f_law : Addr
  d_law : FuncData
  F_law : Fun K "law" "law" s_law f_law d_law
  g_law : mg "law" = some (.ref f_law)
  B_law : Binds K d_law ["_law_script"] []
  cc_law : Addr
  P_law : Addr
  code_law : d_law.code = .ref cc_law
abbrev Facts.tb {K : PySem.W.Frag} {mg : Str → Option Value} (T : Facts K mg) : List (Addr × Str) := [(T.P_law, (PyProof.Rows.envOfC "law" (defScope s_law) 0 0 .none).qual ++ "<lambda>")]
section
variable {P : Program} {w : World} {K : PySem.W.Frag} {mg : Str → Option Value} {base : Heap} (T : Facts K mg)
include T
theorem ok_l_take : FnG P w K mg base 1 T.f_l_take T.d_l_take ["_law_feed_here", "_law_bound"] (spM ((penG.wt T.tb mg).wc false) K mg 2 drawM) := ok_draw T.F_l_take T.z_len T.z_abs T.z_int
end
end Q81

namespace Q81
open PySem PySem.Spec L2 PL LamX
section
variable {P : Program} {w : World} {K : PySem.W.Frag} {mg : Str → Option Value} {base : Heap} (T : Facts K mg)
include T
set_option maxHeartbeats 0 in
theorem ok_is_integer : FnG P w K mg base 1 T.f_is_integer T.d_is_integer ["value"] (spM ((penG.wt T.tb mg).wc false) K mg 1 m_is_integer) := by
  have nd := sc_is_integer.nd
  refine fn_okG (m := m_is_integer) (Sh := fun args => ∃ value : D, args = [.d value]) T.F_is_integer sc_is_integer (by decide) (fun args n P PX h => ?_) ?_
  · unfold m_is_integer at h; split at h
    all_goals first | exact ⟨_, rfl⟩ | exact False.elim h
  · rintro args ⟨value, rfl⟩ cdv A outer s H E Wx hg hr tk po
    show SG _ _ _ _ _ EnT (d_is_integer value)
    unfold d_is_integer
    exact (sg_retT (e_and (e_isi .int (T.z_isinstance) (T.z_int) (by decide +kernel) (e_nm 0)) (e_one (e_not (e_isi .bool (T.z_isinstance) (T.z_bool) (by decide +kernel) (e_nm 0))))) rfl (fun _ => rfl))
end
end Q81

namespace Q81
open PySem PySem.Spec L2 PL LamX
section
variable {P : Program} {w : World} {K : PySem.W.Frag} {mg : Str → Option Value} {base : Heap} (T : Facts K mg)
include T
set_option maxHeartbeats 0 in
theorem ok_is_between : FnG P w K mg base 2 T.f_is_between T.d_is_between ["value", "least", "most"] (spM ((penG.wt T.tb mg).wc false) K mg 3 m_is_between) := by
  have nd := sc_is_between.nd
  refine fn_okG (m := m_is_between) (Sh := fun args => ∃ value : D, ∃ least : D, ∃ most : D, args = [.d value, .d least, .d most]) T.F_is_between sc_is_between (by decide) (fun args n P PX h => ?_) ?_
  · unfold m_is_between at h; split at h
    all_goals first | exact ⟨_, _, _, rfl⟩ | exact False.elim h
  · rintro args ⟨value, least, most, rfl⟩ cdv A outer s H E Wx hg hr tk po
    show SG _ _ _ _ _ EnT (d_is_between value least most)
    unfold d_is_between
    exact (sg_retT (e_and (e_call (ps := ["value"]) ⟨ok_is_integer T, T.g_is_integer, T.F_is_integer.kp⟩ hg (hr.mono (by decide)) tk T.B_is_integer (v_cons (e_nm 0) (v_nil))) (e_one (e_chain (cm_le) (cm_le) (e_nm 1) (e_nm 0) (e_nm 2)))) rfl (fun _ => rfl))
end
end Q81

namespace Q81
open PySem PySem.Spec L2 PL LamX
section
variable {P : Program} {w : World} {K : PySem.W.Frag} {mg : Str → Option Value} {base : Heap} (T : Facts K mg)
include T
set_option maxHeartbeats 0 in
theorem ok_is_word : FnG P w K mg base 1 T.f_is_word T.d_is_word ["value"] (spM ((penG.wt T.tb mg).wc false) K mg 1 m_is_word) := by
  have nd := sc_is_word.nd
  refine fn_okG (m := m_is_word) (Sh := fun args => ∃ value : D, args = [.d value]) T.F_is_word sc_is_word (by decide) (fun args n P PX h => ?_) ?_
  · unfold m_is_word at h; split at h
    all_goals first | exact ⟨_, rfl⟩ | exact False.elim h
  · rintro args ⟨value, rfl⟩ cdv A outer s H E Wx hg hr tk po
    show SG _ _ _ _ _ EnT (d_is_word value)
    unfold d_is_word
    exact (sg_if ((tw_or (t_not (t_truth (e_isi .str (T.z_isinstance) (T.z_str) (by decide +kernel) (e_nm 0)))) (tw_or1 (t_not (t_chain (cm_le) (cm_le) (e_int) (e_lenI (T.z_len) (e_nm 0)) (e_gi T.c_LONGEST_WORD.choose_spec))))).t) rfl
    (sg_retP (d := (.bl false)) (e_bl) rfl rfl)
    (sg_push (sg_retT (e_all rfl (T.z_all) ((o_lcQ (own := [("sign", 1)]) (t := (.nm 1)) (f := chD) (mu := ret) (ee := (fun a ρ => ρ.set 1 (.d (chD a)))) (fun _ => rfl) (fun x ρ => setT_1 1 chD x ρ) rfl nd (w_strZ (e_nm 0)) (blkOk_by (own := [("sign", 1)]) (N := sc_is_word_N) (sc := defScope s_is_word) (by decide +kernel)) (fun _ _ _ _ _ => g_nm 1 nd) (fun _ _ _ _ _ => ts_nil) (fun _ _ _ _ _ => e_cmp (cm_inS) (e_nm 1) (e_gs T.c_LETTERS.choose_spec))).e)) rfl (fun _ => rfl))))
end
end Q81

namespace Q81
open PySem PySem.Spec L2 PL LamX
section
variable {P : Program} {w : World} {K : PySem.W.Frag} {mg : Str → Option Value} {base : Heap} (T : Facts K mg)
include T
set_option maxHeartbeats 0 in
theorem ok_is_value : FnG P w K mg base 3 T.f_is_value T.d_is_value ["value"] (spM ((penG.wt T.tb mg).wc false) K mg 1 m_is_value) := by
  have nd := sc_is_value.nd
  refine fn_okG (m := m_is_value) (Sh := fun args => ∃ value : D, args = [.d value]) T.F_is_value sc_is_value (by decide) (fun args n P PX h => ?_) ?_
  · unfold m_is_value at h; split at h
    all_goals first | exact ⟨_, rfl⟩ | exact False.elim h
  · rintro args ⟨value, rfl⟩ cdv A outer s H E Wx hg hr tk po
    show SG _ _ _ _ _ EnT (d_is_value value)
    unfold d_is_value
    exact (sg_retT (e_call (ps := ["value", "least", "most"]) ⟨ok_is_between T, T.g_is_between, T.F_is_between.kp⟩ hg (hr.mono (by decide)) tk T.B_is_between (v_cons (e_nm 0) (v_cons (e_neg (e_gi T.c_GREATEST_VALUE.choose_spec)) (v_cons (e_gi T.c_GREATEST_VALUE.choose_spec) (v_nil))))) rfl (fun _ => rfl))
end
end Q81

namespace Q81
open PySem PySem.Spec L2 PL LamX
section
variable {P : Program} {w : World} {K : PySem.W.Frag} {mg : Str → Option Value} {base : Heap} (T : Facts K mg)
include T
set_option maxHeartbeats 0 in
theorem ok_are_pairs : FnG P w K mg base 2 T.f_are_pairs T.d_are_pairs ["value"] (spM ((penG.wt T.tb mg).wc false) K mg 1 m_are_pairs) := by
  have nd := sc_are_pairs.nd
  refine fn_okG (m := m_are_pairs) (Sh := fun args => ∃ value : D, args = [.d value]) T.F_are_pairs sc_are_pairs (by decide) (fun args n P PX h => ?_) ?_
  · unfold m_are_pairs at h; split at h
    all_goals first | exact ⟨_, rfl⟩ | exact False.elim h
  · rintro args ⟨value, rfl⟩ cdv A outer s H E Wx hg hr tk po
    show SG _ _ _ _ _ EnT (d_are_pairs value)
    unfold d_are_pairs
    exact (sg_ifP (t_not (t_truth (e_isi .tup (T.z_isinstance) (T.z_tuple) (by decide +kernel) (e_nm 0)))) rfl
    (sg_retP (d := (.bl false)) (e_bl) rfl rfl)
    (sg_push (sg_asgP (d := (.str (Str.ofString ""))) (ρ' := [.d value, .d (.str (Str.ofString "")), .un]) 1 (e_str (x := Str.ofString "")) (g_nm 1 nd) rfl rfl (sg_forI (t := (.nm 2)) (f := (fun y : D => y)) (emb := (fun j : D => [.d value, .d j, .un])) (e := (fun a j => [.d value, .d j, .d a])) po rfl (w_seqZ (e_nm 0)) (g_nm 2 nd) rfl seqT_map id_inj (Le.same (Le.same (Le.same (Le.nil)))) (fun x j => rfl) (fun j a b h => id_inj _ _ (by have q := congrArg (·[2]?) h; exact SV.d.inj (Option.some.inj q)))
    (fun pair j => sg_if ((tw_or (t_not (t_truth (e_isi .tup (T.z_isinstance) (T.z_tuple) (by decide +kernel) (e_nm 2)))) (tw_or (t_cmp (cm_neI (u64 hr)) (e_lenI (T.z_len) (e_nm 2)) (e_int)) (tw_or (t_not (t_truth (e_call (ps := ["value"]) ⟨ok_is_word T, T.g_is_word, T.F_is_word.kp⟩ hg (hr.mono (by decide)) tk T.B_is_word (v_cons (e_ix (e_nm 2) (e_int)) (v_nil))))) (tw_or1 (t_cmp (cm_le) (e_ix (e_nm 2) (e_int)) (e_nm 1)))))).t) rfl
    (sg_retP (d := (.bl false)) (e_bl) rfl ⟨ret (.bl false), rfl, rfl⟩)
    (sg_push (sg_asg (f := (fun x => x)) (ρ' := fun last => [.d value, .d last, .d pair]) 1 3 (e_ix (e_nm 2) (e_int)) (g_nm 1 nd) rfl id_inj rfl (by decide) (fun _ => rfl) (fun last => sg_nil ⟨last, rfl, (Le.same (Le.same (Le.un (Le.nil))))⟩))))
    (fun j1 => sg_retP (d := (.bl true)) (e_bl) rfl rfl)))))
end
end Q81

namespace Q81
open PySem PySem.Spec L2 PL LamX
section
variable {P : Program} {w : World} {K : PySem.W.Frag} {mg : Str → Option Value} {base : Heap} (T : Facts K mg)
include T
set_option maxHeartbeats 0 in
theorem ok_is_store : FnG P w K mg base 4 T.f_is_store T.d_is_store ["value"] (spM ((penG.wt T.tb mg).wc false) K mg 1 m_is_store) := by
  have nd := sc_is_store.nd
  refine fn_okG (m := m_is_store) (Sh := fun args => ∃ value : D, args = [.d value]) T.F_is_store sc_is_store (by decide) (fun args n P PX h => ?_) ?_
  · unfold m_is_store at h; split at h
    all_goals first | exact ⟨_, rfl⟩ | exact False.elim h
  · rintro args ⟨value, rfl⟩ cdv A outer s H E Wx hg hr tk po
    show SG _ _ _ _ _ EnT (d_is_store value)
    unfold d_is_store
    exact (sg_retT (e_and (e_call (ps := ["value"]) ⟨ok_are_pairs T, T.g_are_pairs, T.F_are_pairs.kp⟩ hg (hr.mono (by decide)) tk T.B_are_pairs (v_cons (e_nm 0) (v_nil))) (e_one (e_all rfl (T.z_all) ((o_lcQ (own := [("pair", 1)]) (t := (.nm 1)) (f := (fun y : D => y)) (mu := ret) (ee := (fun a ρ => ρ.set 1 (.d a))) seqT_map (fun x ρ => setT_1 1 (fun y : D => y) x ρ) rfl nd (w_seqZ (e_nm 0)) (blkOk_by (own := [("pair", 1)]) (N := sc_is_store_N) (sc := defScope s_is_store) (by decide +kernel)) (fun _ _ _ _ _ => g_nm 1 nd) (fun _ _ _ _ _ => ts_nil) (fun _ _ _ _ _ => e_call (ps := ["value"]) ⟨ok_is_value T, T.g_is_value, T.F_is_value.kp⟩ hg (hr.mono (by decide)) L2.takes0 T.B_is_value (v_cons (e_ix (e_nm 1) (e_int)) (v_nil)))).e)))) rfl (fun _ => rfl))
end
end Q81

namespace Q81
open PySem PySem.Spec L2 PL LamX
section
variable {P : Program} {w : World} {K : PySem.W.Frag} {mg : Str → Option Value} {base : Heap} (T : Facts K mg)
include T
set_option maxHeartbeats 0 in
theorem ok_number_in : FnG P w K mg base 1 T.f_number_in T.d_number_in ["text"] (spM ((penG.wt T.tb mg).wc false) K mg 1 m_number_in) := by
  have nd := sc_number_in.nd
  refine fn_okG (m := m_number_in) (Sh := fun args => ∃ text : D, args = [.d text]) T.F_number_in sc_number_in (by decide) (fun args n P PX h => ?_) ?_
  · unfold m_number_in at h; split at h
    all_goals first | exact ⟨_, rfl⟩ | exact False.elim h
  · rintro args ⟨text, rfl⟩ cdv A outer s H E Wx hg hr tk po
    show SG _ _ _ _ _ EnT (d_number_in text)
    unfold d_number_in
    exact (sg_asg (f := (fun x => x)) (ρ' := fun digits => [.d text, .d digits, .un]) 1 3 (e_if (t_cmp (cm_eq (u64 hr)) (e_sl (e_nm 0) (p_none) (p_some (e_int))) (e_str (x := Str.ofString "-"))) (e_sl (e_nm 0) (p_some (e_int)) (p_none)) (e_nm 0)) (g_nm 1 nd) rfl id_inj rfl (by decide) (fun _ => rfl) (fun digits => sg_if ((tw_or (t_not (t_chain (cm_le) (cm_le) (e_int) (e_lenI (T.z_len) (e_nm 1)) (e_gi T.c_MOST_DIGITS.choose_spec))) (tw_or1 (t_not (t_truth (e_all rfl (T.z_all) ((o_lcQ (own := [("sign", 2)]) (t := (.nm 2)) (f := chD) (mu := ret) (ee := (fun a ρ => ρ.set 2 (.d (chD a)))) (fun _ => rfl) (fun x ρ => setT_1 2 chD x ρ) rfl nd (w_strZ (e_nm 1)) (blkOk_by (own := [("sign", 2)]) (N := sc_number_in_N) (sc := defScope s_number_in) (by decide +kernel)) (fun _ _ _ _ _ => g_nm 2 nd) (fun _ _ _ _ _ => ts_nil) (fun _ _ _ _ _ => e_cmp (cm_inS) (e_nm 2) (e_gs T.c_DIGITS.choose_spec))).e)))))).t) rfl
    (sg_retP (d := .non) (e_non) rfl rfl)
    (sg_push (sg_if ((tw_and (t_cmp (cm_eq (u64 hr)) (e_ix (e_nm 1) (e_int)) (e_str (x := Str.ofString "0"))) (tw_and1 (t_cmp (cm_ne (u64 hr)) (e_nm 0) (e_str (x := Str.ofString "0"))))).t) rfl
    (sg_retP (d := .non) (e_non) rfl rfl)
    (sg_push (sg_retT (e_intT (T.z_int) (e_nm 0)) rfl (fun _ => rfl)))))))
end
end Q81

namespace Q81
open PySem PySem.Spec L2 PL LamX
section
variable {P : Program} {w : World} {K : PySem.W.Frag} {mg : Str → Option Value} {base : Heap} (T : Facts K mg)
include T
set_option maxHeartbeats 0 in
theorem ok_need_text : FnG P w K mg base 3 T.f_need_text T.d_need_text ["text"] (spM ((penG.wt T.tb mg).wc false) K mg 1 m_need_text) := by
  have nd := sc_need_text.nd
  refine fn_okG (m := m_need_text) (Sh := fun args => ∃ text : D, args = [.d text]) T.F_need_text sc_need_text (by decide) (fun args n P PX h => ?_) ?_
  · unfold m_need_text at h; split at h
    all_goals first | exact ⟨_, rfl⟩ | exact False.elim h
  · rintro args ⟨text, rfl⟩ cdv A outer s H E Wx hg hr tk po
    show SG _ _ _ _ _ EnT (d_need_text text)
    unfold d_need_text
    exact (sg_ifP (t_not (t_truth (e_isi .str (T.z_isinstance) (T.z_str) (by decide +kernel) (e_nm 0)))) rfl
    (sg_raise1 T.er_InvalidText rfl (hr.mono (by decide)) tk (e_non) rfl rfl)
    (sg_push (sg_nil rfl)))
end
end Q81

namespace Q81
open PySem PySem.Spec L2 PL LamX
section
variable {P : Program} {w : World} {K : PySem.W.Frag} {mg : Str → Option Value} {base : Heap} (T : Facts K mg)
include T
set_option maxHeartbeats 0 in
theorem ok_store_in : FnG P w K mg base 5 T.f_store_in T.d_store_in ["text"] (spM ((penG.wt T.tb mg).wc false) K mg 1 m_store_in) := by
  have nd := sc_store_in.nd
  refine fn_okG (m := m_store_in) (Sh := fun args => ∃ text : D, args = [.d text]) T.F_store_in sc_store_in (by decide) (fun args n P PX h => ?_) ?_
  · unfold m_store_in at h; split at h
    all_goals first | exact ⟨_, rfl⟩ | exact False.elim h
  · rintro args ⟨text, rfl⟩ cdv A outer s H E Wx hg hr tk po
    show SG _ _ _ _ _ EnT (d_store_in text)
    unfold d_store_in
    exact (sg_if (t_cmp (cm_eq (u64 hr)) (e_nm 0) (e_gs T.c_NOTHING.choose_spec)) rfl
    (sg_retP (d := (.tup [])) (e_tupL (al_nil)) rfl rfl)
    (sg_push (sg_ownP (d := []) (ρ' := [.d text, .own [], .un, .un, .un, .un]) 1 (o_lstL (al_nil)) nd rfl rfl (sg_forI (t := (.nm 2)) (f := (fun y : D => y)) (emb := (fun j : List D => [.d text, .own j, .un, .un, .un, .un])) (e := (fun a j => [.d text, .own j, .d a, .un, .un, .un])) po rfl (w_seqZ ((o_split (e_nm 0) (e_str (x := Str.ofString " "))).e)) (g_nm 2 nd) rfl seqT_map id_inj (Le.same (Le.same (Le.same (Le.same (Le.same (Le.same (Le.nil))))))) (fun x j => rfl) (fun j a b h => id_inj _ _ (by have q := congrArg (·[2]?) h; exact SV.d.inj (Option.some.inj q)))
    (fun part j => sg_asg3 (f1 := fun a : D × D × D => a.1) (f2 := fun a : D × D × D => a.2.1) (f3 := fun a : D × D × D => a.2.2) (ρ' := fun p => [.d text, .own j, .d part, .d p.1, .d p.2.1, .d p.2.2]) 3 4 5 6 (e_part (e_nm 2) (e_str (x := Str.ofString "="))) (g_tp rfl (gs_cons (g_nm 3 nd) (gs_cons (g_nm 4 nd) (gs_cons (g_nm 5 nd) (gs_nil))))) rfl (fun a b h1 h2 h3 => Prod.ext h1 (Prod.ext h2 h3)) rfl (by decide) (by decide) (by decide) (by decide) (by decide) (by decide) (fun _ => rfl) (fun p => sg_app (f := .tup) (ρ' := fun app => [.d text, .own (j ++ [(.tup app)]), .d part, .d p.1, .d p.2.1, .d p.2.2]) (xs := j) 1 6 (e_tupL (al_cons (e_nm 3) (al_cons (e_call (ps := ["text"]) ⟨ok_number_in T, T.g_number_in, T.F_number_in.kp⟩ hg (hr.mono (by decide)) tk T.B_number_in (v_cons (e_nm 5) (v_nil))) (al_nil)))) rfl rfl tup_inj rfl (by decide) (fun _ => rfl) (fun app => sg_nil ⟨(j ++ [(.tup app)]), rfl, (Le.same (Le.same (Le.un (Le.un (Le.un (Le.un (Le.nil)))))))⟩)))
    (fun j1 => sg_retT (e_if (t_truth (e_call (ps := ["value"]) ⟨ok_is_store T, T.g_is_store, T.F_is_store.kp⟩ hg (hr.mono (by decide)) tk T.B_is_store (v_cons (e_tuple (T.z_tuple) (e_nm 1)) (v_nil)))) (e_tuple (T.z_tuple) (e_nm 1)) (e_non)) rfl (fun _ => rfl))))))
end
end Q81

namespace Q81
open PySem PySem.Spec L2 PL LamX
section
variable {P : Program} {w : World} {K : PySem.W.Frag} {mg : Str → Option Value} {base : Heap} (T : Facts K mg)
include T
set_option maxHeartbeats 0 in
theorem ok_mark_in : FnG P w K mg base 6 T.f_mark_in T.d_mark_in ["text"] (spM ((penG.wt T.tb mg).wc false) K mg 1 m_mark_in) := by
  have nd := sc_mark_in.nd
  refine fn_okG (m := m_mark_in) (Sh := fun args => ∃ text : D, args = [.d text]) T.F_mark_in sc_mark_in (by decide) (fun args n P PX h => ?_) ?_
  · unfold m_mark_in at h; split at h
    all_goals first | exact ⟨_, rfl⟩ | exact False.elim h
  · rintro args ⟨text, rfl⟩ cdv A outer s H E Wx hg hr tk po
    show SG _ _ _ _ _ EnT (d_mark_in text)
    unfold d_mark_in
    exact (sg_asg3 (f1 := fun a : D × D × D => a.1) (f2 := fun a : D × D × D => a.2.1) (f3 := fun a : D × D × D => a.2.2) (ρ' := fun p => [.d text, .d p.1, .d p.2.1, .d p.2.2, .un]) 1 2 3 5 (e_part (e_nm 0) (e_str (x := Str.ofString ": "))) (g_tp rfl (gs_cons (g_nm 1 nd) (gs_cons (g_nm 2 nd) (gs_cons (g_nm 3 nd) (gs_nil))))) rfl (fun a b h1 h2 h3 => Prod.ext h1 (Prod.ext h2 h3)) rfl (by decide) (by decide) (by decide) (by decide) (by decide) (by decide) (fun _ => rfl) (fun p => sg_asg (f := (fun x => x)) (ρ' := fun store => [.d text, .d p.1, .d p.2.1, .d p.2.2, .d store]) 4 5 (e_call (ps := ["text"]) ⟨ok_store_in T, T.g_store_in, T.F_store_in.kp⟩ hg (hr.mono (by decide)) tk T.B_store_in (v_cons (e_nm 3) (v_nil))) (g_nm 4 nd) rfl id_inj rfl (by decide) (fun _ => rfl) (fun store => sg_if ((tw_or (t_cmp (cm_eq (u64 hr)) (e_nm 2) (e_str (x := Str.ofString ""))) (tw_or (t_not (t_truth (e_call (ps := ["value"]) ⟨ok_is_word T, T.g_is_word, T.F_is_word.kp⟩ hg (hr.mono (by decide)) tk T.B_is_word (v_cons (e_nm 1) (v_nil))))) (tw_or1 (t_cmp (cm_is) (e_nm 4) (e_non))))).t) rfl
    (sg_retP (d := .non) (e_non) rfl rfl)
    (sg_push (sg_retP (d := (.tup [p.1, store])) (e_tupL (al_cons (e_nm 1) (al_cons (e_nm 4) (al_nil)))) rfl rfl)))))
end
end Q81

namespace Q81
open PySem PySem.Spec L2 PL LamX
section
variable {P : Program} {w : World} {K : PySem.W.Frag} {mg : Str → Option Value} {base : Heap} (T : Facts K mg)
include T
set_option maxHeartbeats 0 in
theorem ok_read_state : FnG P w K mg base 7 T.f_read_state T.d_read_state ["text"] (spM ((penG.wt T.tb mg).wc false) K mg 1 m_read_state) := by
  have nd := sc_read_state.nd
  refine fn_okG (m := m_read_state) (Sh := fun args => ∃ text : D, args = [.d text]) T.F_read_state sc_read_state (by decide) (fun args n P PX h => ?_) ?_
  · unfold m_read_state at h; split at h
    all_goals first | exact ⟨_, rfl⟩ | exact False.elim h
  · rintro args ⟨text, rfl⟩ cdv A outer s H E Wx hg hr tk po
    show SG _ _ _ _ _ EnT (d_read_state text)
    unfold d_read_state
    exact (sg_expr (e_call (ps := ["text"]) ⟨ok_need_text T, T.g_need_text, T.F_need_text.kp⟩ hg (hr.mono (by decide)) tk T.B_need_text (v_cons (e_nm 0) (v_nil))) rfl (sg_star (i := 1) (j := 2) (ρ' := fun p => [.d text, .d p.1, .d (.lst p.2), .un, .un, .un, .un, .un]) rfl nd rfl rfl rfl rfl ((o_split (e_nm 0) (e_str (x := Str.ofString "\n"))).e) rfl (fun _ => rfl) (fun p => sg_asg (f := (fun x => x)) (ρ' := fun store => [.d text, .d p.1, .d (.lst p.2), .d store, .un, .un, .un, .un]) 3 8 (e_call (ps := ["text"]) ⟨ok_store_in T, T.g_store_in, T.F_store_in.kp⟩ hg (hr.mono (by decide)) tk T.B_store_in (v_cons (e_nm 1) (v_nil))) (g_nm 3 nd) rfl id_inj rfl (by decide) (fun _ => rfl) (fun store => sg_ifP (t_cmp (cm_is) (e_nm 3) (e_non)) rfl
    (sg_raise1 T.er_InvalidText rfl (hr.mono (by decide)) tk (e_int) rfl rfl)
    (sg_push (sg_ownP (d := []) (ρ' := [.d text, .d p.1, .d (.lst p.2), .d store, .own [], .un, .un, .un]) 4 (o_lstL (al_nil)) nd rfl rfl (sg_forI (t := (.tp [.nm 5, .nm 6])) (f := eT) (emb := (fun j : List D => [.d text, .d p.1, .d (.lst p.2), .d store, .own j, .un, .un, .un])) (e := (fun a j => [.d text, .d p.1, .d (.lst p.2), .d store, .own j, .d (.int a.1), .d a.2, .un])) po rfl (w_enumK (k0 := 1) (T.z_enumerate) (e_nm 2) e_int (by decide) (fun _ => rfl)) (g_tp rfl (gs_cons (g_nm 5 nd) (gs_cons (g_nm 6 nd) (gs_nil)))) rfl (fun _ => rfl) eT_inj (Le.same (Le.same (Le.same (Le.same (Le.same (Le.same (Le.same (Le.same (Le.nil))))))))) (fun x j => (setT_e 5 6) x _) (fun j a b h => Prod.ext (by have q := congrArg (·[5]?) h; exact int_inj _ _ (SV.d.inj (Option.some.inj q))) (by have q := congrArg (·[6]?) h; exact SV.d.inj (Option.some.inj q)))
    (fun p1 j => sg_asg (f := (fun x => x)) (ρ' := fun mark => [.d text, .d p.1, .d (.lst p.2), .d store, .own j, .d (.int p1.1), .d p1.2, .d mark]) 7 8 (e_call (ps := ["text"]) ⟨ok_mark_in T, T.g_mark_in, T.F_mark_in.kp⟩ hg (hr.mono (by decide)) tk T.B_mark_in (v_cons (e_nm 6) (v_nil))) (g_nm 7 nd) rfl id_inj rfl (by decide) (fun _ => rfl) (fun mark => sg_ifP (t_cmp (cm_is) (e_nm 7) (e_non)) rfl
    (sg_raise1 T.er_InvalidText rfl (hr.mono (by decide)) tk (e_nm 5) rfl rfl)
    (sg_push (sg_appP (d := mark) (ρ' := [.d text, .d p.1, .d (.lst p.2), .d store, .own (j ++ [mark]), .d (.int p1.1), .d p1.2, .d mark]) (xs := j) 4 8 (e_nm 7) rfl rfl rfl (by decide) rfl (sg_nil ⟨(j ++ [mark]), rfl, (Le.same (Le.same (Le.same (Le.same (Le.same (Le.un (Le.un (Le.un (Le.nil)))))))))⟩)))))
    (fun j1 => sg_retP (d := (.tup [store, (.tup j1.reverse)])) (e_tupL (al_cons (e_nm 3) (al_cons (e_tuple (T.z_tuple) (e_rev (e_nm 4))) (al_nil)))) rfl rfl))))))))
end
end Q81

namespace Q81
open PySem PySem.Spec L2 PL LamX
section
variable {P : Program} {w : World} {K : PySem.W.Frag} {mg : Str → Option Value} {base : Heap} (T : Facts K mg)
include T
set_option maxHeartbeats 0 in
theorem ok_l_word : FnG P w K mg base 2 T.f_l_word T.d_l_word ["_law_feed_here"] (spM ((penG.wt T.tb mg).wc false) K mg 1 m_l_word) := by
  have nd := sc_l_word.nd
  refine fn_okG (m := m_l_word) (Sh := fun args => args = [.pen]) T.F_l_word sc_l_word (by decide) (fun args n P PX h => ?_) ?_
  · unfold m_l_word at h; split at h
    all_goals first | exact rfl | exact False.elim h
  · rintro args rfl cdv A outer s H E Wx hg hr tk po
    show SG _ _ _ _ _ EnT (d_l_word )
    unfold d_l_word
    exact (sg_if (t_cmp (cm_gt) (e_call (ps := ["_law_feed_here", "_law_bound"]) ⟨ok_l_take T, T.g_l_take, T.F_l_take.kp⟩ hg (hr.mono (by decide)) tk T.B_l_take (v_pen 0 (v_cons (e_int) (v_nil)))) (e_int)) rfl
    (sg_retT (e_ix (e_str (x := Str.ofString "abc")) (e_call (ps := ["_law_feed_here", "_law_bound"]) ⟨ok_l_take T, T.g_l_take, T.F_l_take.kp⟩ hg (hr.mono (by decide)) tk T.B_l_take (v_pen 0 (v_cons (e_int) (v_nil))))) rfl (fun _ => rfl))
    (sg_push (sg_asg (f := .int) (ρ' := fun many => [.pen, .d (.int many), .un]) 1 3 (e_add (e_int) (e_call (ps := ["_law_feed_here", "_law_bound"]) ⟨ok_l_take T, T.g_l_take, T.F_l_take.kp⟩ hg (hr.mono (by decide)) tk T.B_l_take (v_pen 0 (v_cons (e_int) (v_nil))))) (g_nm 1 nd) rfl int_inj rfl (by decide) (fun _ => rfl) (fun many => sg_retT (e_join (e_str (x := Str.ofString "")) ((o_lcQ (own := [("_law_k", 2)]) (t := (.nm 2)) (f := D.int) (mu := ret) (ee := (fun a ρ => ρ.set 2 (.d (.int a)))) (fun _ => rfl) (fun x ρ => setT_1 2 D.int x ρ) rfl nd (w_rng1Z (T.z_range) (e_nm 1)) (blkOk_by (own := [("_law_k", 2)]) (N := sc_l_word_N) (sc := defScope s_l_word) (by decide +kernel)) (fun _ _ _ _ _ => g_nm 2 nd) (fun _ _ _ _ _ => ts_nil) (fun _ _ _ _ _ => e_ix (e_str (x := Str.ofString "abcdefghijklmnopqrstuvwxyz")) (e_call (ps := ["_law_feed_here", "_law_bound"]) ⟨ok_l_take T, T.g_l_take, T.F_l_take.kp⟩ hg (hr.mono (by decide)) L2.takes0 T.B_l_take (v_pen 0 (v_cons (e_int) (v_nil)))))).e)) rfl (fun _ => rfl)))))
end
end Q81

namespace Q81
open PySem PySem.Spec L2 PL LamX
section
variable {P : Program} {w : World} {K : PySem.W.Frag} {mg : Str → Option Value} {base : Heap} (T : Facts K mg)
include T
set_option maxHeartbeats 0 in
theorem ok_l_number : FnG P w K mg base 2 T.f_l_number T.d_l_number ["_law_feed_here"] (spM ((penG.wt T.tb mg).wc false) K mg 1 m_l_number) := by
  have nd := sc_l_number.nd
  refine fn_okG (m := m_l_number) (Sh := fun args => args = [.pen]) T.F_l_number sc_l_number (by decide) (fun args n P PX h => ?_) ?_
  · unfold m_l_number at h; split at h
    all_goals first | exact rfl | exact False.elim h
  · rintro args rfl cdv A outer s H E Wx hg hr tk po
    show SG _ _ _ _ _ EnT (d_l_number )
    unfold d_l_number
    exact (sg_asg (f := .int) (ρ' := fun near => [.pen, .d (.int near)]) 1 2 (e_call (ps := ["_law_feed_here", "_law_bound"]) ⟨ok_l_take T, T.g_l_take, T.F_l_take.kp⟩ hg (hr.mono (by decide)) tk T.B_l_take (v_pen 0 (v_cons (e_int) (v_nil)))) (g_nm 1 nd) rfl int_inj rfl (by decide) (fun _ => rfl) (fun near => sg_retT (e_ix ((o_lstL (al_cons (e_sub (e_nm 1) (e_int)) (al_cons (e_sub (e_nm 1) (e_int)) (al_cons (e_sub (e_powC (v := 1000000000000000000) (e_int) (e_int)) (e_nm 1)) (al_cons (e_sub (e_nm 1) (e_powC (v := 1000000000000000000) (e_int) (e_int))) (al_nil)))))).e) (e_call (ps := ["_law_feed_here", "_law_bound"]) ⟨ok_l_take T, T.g_l_take, T.F_l_take.kp⟩ hg (hr.mono (by decide)) tk T.B_l_take (v_pen 0 (v_cons (e_int) (v_nil))))) rfl (fun _ => rfl)))
end
end Q81

namespace Q81
open PySem PySem.Spec L2 PL LamX
section
variable {P : Program} {w : World} {K : PySem.W.Frag} {mg : Str → Option Value} {base : Heap} (T : Facts K mg)
include T
set_option maxHeartbeats 0 in
theorem ok_l_pairs : FnG P w K mg base 3 T.f_l_pairs T.d_l_pairs ["_law_feed_here", "_law_most", "_law_rare"] (spM ((penG.wt T.tb mg).wc false) K mg 3 m_l_pairs) := by
  have nd := sc_l_pairs.nd
  refine fn_okG (m := m_l_pairs) (Sh := fun args => ∃ most : Int, ∃ rare : Int, args = [.pen, .d (.int most), .d (.int rare)]) T.F_l_pairs sc_l_pairs (by decide) (fun args n P PX h => ?_) ?_
  · unfold m_l_pairs at h; split at h
    all_goals first | exact ⟨_, _, rfl⟩ | exact False.elim h
  · rintro args ⟨most, rare, rfl⟩ cdv A outer s H E Wx hg hr tk po
    show SG _ _ _ _ _ EnT (d_l_pairs most rare)
    unfold d_l_pairs
    exact (sg_dicP (d := []) (ρ' := [.pen, .d (.int most), .d (.int rare), .ownK [], .un, .un]) 3 (k_new) nd rfl rfl (sg_forI (t := (.nm 4)) (f := D.int) (emb := (fun j : List (Key × D) => [.pen, .d (.int most), .d (.int rare), .ownK j, .un, .un])) (e := (fun a j => [.pen, .d (.int most), .d (.int rare), .ownK j, .d (.int a), .un])) po rfl (w_rng1Z (T.z_range) (e_call (ps := ["_law_feed_here", "_law_bound"]) ⟨ok_l_take T, T.g_l_take, T.F_l_take.kp⟩ hg (hr.mono (by decide)) tk T.B_l_take (v_pen 0 (v_cons (e_add (e_nm 1) (e_int)) (v_nil))))) (g_nm 4 nd) rfl (fun _ => rfl) int_inj (Le.same (Le.same (Le.same (Le.same (Le.same (Le.same (Le.nil))))))) (fun x j => rfl) (fun j a b h => int_inj _ _ (by have q := congrArg (·[4]?) h; exact SV.d.inj (Option.some.inj q)))
    (fun turn j => sg_asg (f := (fun x => x)) (ρ' := fun label => [.pen, .d (.int most), .d (.int rare), .ownK j, .d (.int turn), .d label]) 5 6 (e_call (ps := ["_law_feed_here"]) ⟨ok_l_word T, T.g_l_word, T.F_l_word.kp⟩ hg (hr.mono (by decide)) tk T.B_l_word (v_pen 0 (v_nil))) (g_nm 5 nd) rfl id_inj rfl (by decide) (fun _ => rfl) (fun label => sg_put (xs := j) (ρ' := fun found => [.pen, .d (.int most), .d (.int rare), .ownK found, .d (.int turn), .d label]) 3 6 (u1 hr) (e_nm 5) (e_call (ps := ["_law_feed_here"]) ⟨ok_l_number T, T.g_l_number, T.F_l_number.kp⟩ hg (hr.mono (by decide)) tk T.B_l_number (v_pen 0 (v_nil))) rfl rfl rfl (by decide) (fun _ => rfl) (fun found => sg_if ((tw_and (t_cmp (cm_gt) (e_nm 2) (e_int)) (tw_and1 (t_cmp (cm_eqI (u64 hr)) (e_call (ps := ["_law_feed_here", "_law_bound"]) ⟨ok_l_take T, T.g_l_take, T.F_l_take.kp⟩ hg (hr.mono (by decide)) tk T.B_l_take (v_pen 0 (v_cons (e_nm 2) (v_nil)))) (e_int)))).t) rfl
    (sg_put (xs := found) (ρ' := fun found1 => [.pen, .d (.int most), .d (.int rare), .ownK found1, .d (.int turn), .d label]) 3 6 (u1 hr) (e_nm 5) (e_non) rfl rfl rfl (by decide) (fun _ => rfl) (fun found1 => sg_push (sg_nil ⟨found1, rfl, (Le.same (Le.same (Le.same (Le.same (Le.un (Le.un (Le.nil)))))))⟩)))
    (sg_push (sg_nil ⟨found, rfl, (Le.same (Le.same (Le.same (Le.same (Le.un (Le.un (Le.nil)))))))⟩)))))
    (fun j1 => sg_retT (e_tuple (T.z_tuple) ((o_lcQ (own := [("_law_label", 5)]) (t := (.nm 5)) (f := (fun y : D => y)) (mu := ret) (ee := (fun a ρ => ρ.set 5 (.d a))) seqT_map (fun x ρ => setT_1 5 (fun y : D => y) x ρ) rfl nd (w_seqZ ((o_sortS (T.z_sorted) ((o_listK rfl (T.z_list) (e_nm 3)).e)).e)) (blkOk_by (own := [("_law_label", 5)]) (N := sc_l_pairs_N) (sc := defScope s_l_pairs) (by decide +kernel)) (fun _ _ _ _ _ => g_nm 5 nd) (fun _ _ _ _ _ => ts_nil) (fun _ _ _ _ _ => e_tupL (al_cons (e_nm 5) (al_cons (e_dget (u1 hr) (e_nm 3) (e_nm 5)) (al_nil))))).e)) rfl (fun _ => rfl))))
end
end Q81

namespace Q81
open PySem PySem.Spec L2 PL LamX
section
variable {P : Program} {w : World} {K : PySem.W.Frag} {mg : Str → Option Value} {base : Heap} (T : Facts K mg)
include T
set_option maxHeartbeats 0 in
theorem ok_l_state : FnG P w K mg base 4 T.f_l_state T.d_l_state ["_law_feed_here", "_law_most", "_law_keys"] (spM ((penG.wt T.tb mg).wc false) K mg 3 m_l_state) := by
  have nd := sc_l_state.nd
  refine fn_okG (m := m_l_state) (Sh := fun args => ∃ most : Int, ∃ keys : Int, args = [.pen, .d (.int most), .d (.int keys)]) T.F_l_state sc_l_state (by decide) (fun args n P PX h => ?_) ?_
  · unfold m_l_state at h; split at h
    all_goals first | exact ⟨_, _, rfl⟩ | exact False.elim h
  · rintro args ⟨most, keys, rfl⟩ cdv A outer s H E Wx hg hr tk po
    show SG _ _ _ _ _ EnT (d_l_state most keys)
    unfold d_l_state
    exact (sg_ownP (d := []) (ρ' := [.pen, .d (.int most), .d (.int keys), .own [], .un]) 3 (o_lstL (al_nil)) nd rfl rfl (sg_forI (t := (.nm 4)) (f := D.int) (emb := (fun j : List D => [.pen, .d (.int most), .d (.int keys), .own j, .un])) (e := (fun a j => [.pen, .d (.int most), .d (.int keys), .own j, .d (.int a)])) po rfl (w_rng1Z (T.z_range) (e_asI (e_ix ((o_lstL (al_cons (e_call (ps := ["_law_feed_here", "_law_bound"]) ⟨ok_l_take T, T.g_l_take, T.F_l_take.kp⟩ hg (hr.mono (by decide)) tk T.B_l_take (v_pen 0 (v_cons (e_add (e_nm 1) (e_int)) (v_nil)))) (al_cons (e_nm 1) (al_nil)))).e) (e_toint (T.z_int) (e_cmp (cm_eqI (u64 hr)) (e_call (ps := ["_law_feed_here", "_law_bound"]) ⟨ok_l_take T, T.g_l_take, T.F_l_take.kp⟩ hg (hr.mono (by decide)) tk T.B_l_take (v_pen 0 (v_cons (e_int) (v_nil)))) (e_int)))))) (g_nm 4 nd) rfl (fun _ => rfl) int_inj (Le.same (Le.same (Le.same (Le.same (Le.same (Le.nil)))))) (fun x j => rfl) (fun j a b h => int_inj _ _ (by have q := congrArg (·[4]?) h; exact SV.d.inj (Option.some.inj q)))
    (fun turn j => sg_app (f := .tup) (ρ' := fun app => [.pen, .d (.int most), .d (.int keys), .own (j ++ [(.tup app)]), .d (.int turn)]) (xs := j) 3 5 (e_tupL (al_cons (e_call (ps := ["_law_feed_here"]) ⟨ok_l_word T, T.g_l_word, T.F_l_word.kp⟩ hg (hr.mono (by decide)) tk T.B_l_word (v_pen 0 (v_nil))) (al_cons (e_call (ps := ["_law_feed_here", "_law_most", "_law_rare"]) ⟨ok_l_pairs T, T.g_l_pairs, T.F_l_pairs.kp⟩ hg (hr.mono (by decide)) tk T.B_l_pairs (v_pen 0 (v_cons (e_nm 2) (v_cons (e_int) (v_nil))))) (al_nil)))) rfl rfl tup_inj rfl (by decide) (fun _ => rfl) (fun app => sg_nil ⟨(j ++ [(.tup app)]), rfl, (Le.same (Le.same (Le.same (Le.same (Le.un (Le.nil))))))⟩))
    (fun j1 => sg_retT (e_tupL (al_cons (e_call (ps := ["_law_feed_here", "_law_most", "_law_rare"]) ⟨ok_l_pairs T, T.g_l_pairs, T.F_l_pairs.kp⟩ hg (hr.mono (by decide)) tk T.B_l_pairs (v_pen 0 (v_cons (e_nm 2) (v_cons (e_int) (v_nil))))) (al_cons (e_tuple (T.z_tuple) (e_nm 3)) (al_nil)))) rfl (fun _ => rfl))))
end
end Q81

namespace Q81
open PySem PySem.Spec L2 PL LamX
section
variable {P : Program} {w : World} {K : PySem.W.Frag} {mg : Str → Option Value} {base : Heap} (T : Facts K mg)
include T
set_option maxHeartbeats 0 in
theorem ok_l_is_word : FnG P w K mg base 1 T.f_l_is_word T.d_l_is_word ["_law_thing"] (spM ((penG.wt T.tb mg).wc false) K mg 1 m_l_is_word) := by
  have nd := sc_l_is_word.nd
  refine fn_okG (m := m_l_is_word) (Sh := fun args => ∃ thing : D, args = [.d thing]) T.F_l_is_word sc_l_is_word (by decide) (fun args n P PX h => ?_) ?_
  · unfold m_l_is_word at h; split at h
    all_goals first | exact ⟨_, rfl⟩ | exact False.elim h
  · rintro args ⟨thing, rfl⟩ cdv A outer s H E Wx hg hr tk po
    show SG _ _ _ _ _ EnT (d_l_is_word thing)
    unfold d_l_is_word
    exact (sg_if ((tw_or (t_not (t_truth (e_isi .str (T.z_isinstance) (T.z_str) (by decide +kernel) (e_nm 0)))) (tw_or1 (t_not (t_chain (cm_le) (cm_le) (e_int) (e_lenI (T.z_len) (e_nm 0)) (e_int))))).t) rfl
    (sg_retP (d := (.bl false)) (e_bl) rfl rfl)
    (sg_push (sg_retT (e_cmp (cm_eq (u64 hr)) ((o_lcQ (own := [("_law_sign", 1)]) (t := (.nm 1)) (f := chD) (mu := ret) (ee := (fun a ρ => ρ.set 1 (.d (chD a)))) (fun _ => rfl) (fun x ρ => setT_1 1 chD x ρ) rfl nd (w_strZ (e_nm 0)) (blkOk_by (own := [("_law_sign", 1)]) (N := sc_l_is_word_N) (sc := defScope s_l_is_word) (by decide +kernel)) (fun _ _ _ _ _ => g_nm 1 nd) (fun _ _ _ _ _ => ts_one (t_not (t_chain (cm_le) (cm_le) (e_str (x := Str.ofString "a")) (e_nm 1) (e_str (x := Str.ofString "z"))))) (fun _ _ _ _ _ => e_nm 1)).e) ((o_lstL (al_nil)).e)) rfl (fun _ => rfl))))
end
end Q81

namespace Q81
open PySem PySem.Spec L2 PL LamX
section
variable {P : Program} {w : World} {K : PySem.W.Frag} {mg : Str → Option Value} {base : Heap} (T : Facts K mg)
include T
set_option maxHeartbeats 0 in
theorem ok_l_is_number : FnG P w K mg base 1 T.f_l_is_number T.d_l_is_number ["_law_thing"] (spM ((penG.wt T.tb mg).wc false) K mg 1 m_l_is_number) := by
  have nd := sc_l_is_number.nd
  refine fn_okG (m := m_l_is_number) (Sh := fun args => ∃ thing : D, args = [.d thing]) T.F_l_is_number sc_l_is_number (by decide) (fun args n P PX h => ?_) ?_
  · unfold m_l_is_number at h; split at h
    all_goals first | exact ⟨_, rfl⟩ | exact False.elim h
  · rintro args ⟨thing, rfl⟩ cdv A outer s H E Wx hg hr tk po
    show SG _ _ _ _ _ EnT (d_l_is_number thing)
    unfold d_l_is_number
    exact (sg_retT (e_and (e_isi .int (T.z_isinstance) (T.z_int) (by decide +kernel) (e_nm 0)) (e_and (e_not (e_isi .bool (T.z_isinstance) (T.z_bool) (by decide +kernel) (e_nm 0))) (e_one (e_cmp (cm_le) (e_asI (e_abs (T.z_abs) (e_nm 0))) (e_powC (v := 1000000000000000000) (e_int) (e_int)))))) rfl (fun _ => rfl))
end
end Q81

namespace Q81
open PySem PySem.Spec L2 PL LamX
section
variable {P : Program} {w : World} {K : PySem.W.Frag} {mg : Str → Option Value} {base : Heap} (T : Facts K mg)
include T
set_option maxHeartbeats 0 in
theorem ok_l_full_text : FnG P w K mg base 1 T.f_l_full_text T.d_l_full_text ["_law_full"] (spM ((penG.wt T.tb mg).wc false) K mg 1 m_l_full_text) := by
  have nd := sc_l_full_text.nd
  refine fn_okG (m := m_l_full_text) (Sh := fun args => ∃ full : D, args = [.d full]) T.F_l_full_text sc_l_full_text (by decide) (fun args n P PX h => ?_) ?_
  · unfold m_l_full_text at h; split at h
    all_goals first | exact ⟨_, rfl⟩ | exact False.elim h
  · rintro args ⟨full, rfl⟩ cdv A outer s H E Wx hg hr tk po
    show SG _ _ _ _ _ EnT (d_l_full_text full)
    unfold d_l_full_text
    exact (sg_retT (e_if (t_cmp (cm_gt) (e_lenI (T.z_len) (e_nm 0)) (e_int)) (e_join (e_str (x := Str.ofString " ")) ((o_lcQ (own := [("_law_label", 1), ("_law_entry", 2)]) (t := (.tp [.nm 1, .nm 2])) (f := (fun y : D => y)) (mu := unp2) (ee := (fun a ρ => (ρ.set 1 (.d a.1)).set 2 (.d a.2))) seqT_map (setT_tp2 1 2) rfl nd (w_seqZ (e_nm 0)) (blkOk_by (own := [("_law_label", 1), ("_law_entry", 2)]) (N := sc_l_full_text_N) (sc := defScope s_l_full_text) (by decide +kernel)) (fun _ _ _ _ _ => g_tp rfl (gs_cons (g_nm 1 nd) (gs_cons (g_nm 2 nd) (gs_nil)))) (fun _ _ _ _ _ => ts_nil) (fun _ _ _ _ _ => e_add (e_add (e_nm 1) (e_str (x := Str.ofString "="))) (e_strOf (T.z_str) (e_nm 2)))).e)) (e_str (x := Str.ofString "-"))) rfl (fun _ => rfl))
end
end Q81

namespace Q81
open PySem PySem.Spec L2 PL LamX
section
variable {P : Program} {w : World} {K : PySem.W.Frag} {mg : Str → Option Value} {base : Heap} (T : Facts K mg)
include T
set_option maxHeartbeats 0 in
theorem ok_l_state_text : FnG P w K mg base 2 T.f_l_state_text T.d_l_state_text ["_law_now"] (spM ((penG.wt T.tb mg).wc false) K mg 1 m_l_state_text) := by
  have nd := sc_l_state_text.nd
  refine fn_okG (m := m_l_state_text) (Sh := fun args => ∃ now : D, args = [.d now]) T.F_l_state_text sc_l_state_text (by decide) (fun args n P PX h => ?_) ?_
  · unfold m_l_state_text at h; split at h
    all_goals first | exact ⟨_, rfl⟩ | exact False.elim h
  · rintro args ⟨now, rfl⟩ cdv A outer s H E Wx hg hr tk po
    show SG _ _ _ _ _ EnT (d_l_state_text now)
    unfold d_l_state_text
    exact (sg_own (ρ' := fun rows => [.d now, .own rows, .un, .un, .un]) 1 5 (o_lstL (al_cons (e_call (ps := ["_law_full"]) ⟨ok_l_full_text T, T.g_l_full_text, T.F_l_full_text.kp⟩ hg (hr.mono (by decide)) tk T.B_l_full_text (v_cons (e_ix (e_nm 0) (e_int)) (v_nil))) (al_nil))) nd rfl rfl (by decide) (fun _ => rfl) (fun rows => sg_forI (t := (.nm 2)) (f := D.int) (emb := (fun j : List D => [.d now, .own j, .un, .un, .un])) (e := (fun a j => [.d now, .own j, .d (.int a), .un, .un])) po rfl (w_rng1Z (T.z_range) (e_lenI (T.z_len) (e_ix (e_nm 0) (e_int)))) (g_nm 2 nd) rfl (fun _ => rfl) int_inj (Le.same (Le.same (Le.same (Le.same (Le.same (Le.nil)))))) (fun x j => rfl) (fun j a b h => int_inj _ _ (by have q := congrArg (·[2]?) h; exact SV.d.inj (Option.some.inj q)))
    (fun k j => sg_asg2 (f1 := fun a : D × D => a.1) (f2 := fun a : D × D => a.2) (ρ' := fun p => [.d now, .own j, .d (.int k), .d p.1, .d p.2]) 3 4 5 (e_ix (e_ix (e_nm 0) (e_int)) (e_sub (e_sub (e_lenI (T.z_len) (e_ix (e_nm 0) (e_int))) (e_int)) (e_nm 2))) (g_tp rfl (gs_cons (g_nm 3 nd) (gs_cons (g_nm 4 nd) (gs_nil)))) rfl (fun a b h1 h2 => Prod.ext h1 h2) rfl (by decide) (by decide) (by decide) (fun _ => rfl) (fun p => sg_app (f := (fun x => x)) (ρ' := fun app => [.d now, .own (j ++ [app]), .d (.int k), .d p.1, .d p.2]) (xs := j) 1 5 (e_add (e_add (e_nm 3) (e_str (x := Str.ofString ": "))) (e_call (ps := ["_law_full"]) ⟨ok_l_full_text T, T.g_l_full_text, T.F_l_full_text.kp⟩ hg (hr.mono (by decide)) tk T.B_l_full_text (v_cons (e_nm 4) (v_nil)))) rfl rfl id_inj rfl (by decide) (fun _ => rfl) (fun app => sg_nil ⟨(j ++ [app]), rfl, (Le.same (Le.same (Le.un (Le.un (Le.un (Le.nil))))))⟩)))
    (fun j1 => sg_retT (e_join (e_str (x := Str.ofString "\n")) (e_nm 1)) rfl (fun _ => rfl))))
end
end Q81

namespace Q81
open PySem PySem.Spec L2 PL LamX
section
variable {P : Program} {w : World} {K : PySem.W.Frag} {mg : Str → Option Value} {base : Heap} (T : Facts K mg)
include T
set_option maxHeartbeats 0 in
theorem ok_l_number_in : FnG P w K mg base 1 T.f_l_number_in T.d_l_number_in ["_law_part"] (spM ((penG.wt T.tb mg).wc false) K mg 1 m_l_number_in) := by
  have nd := sc_l_number_in.nd
  refine fn_okG (m := m_l_number_in) (Sh := fun args => ∃ part : D, args = [.d part]) T.F_l_number_in sc_l_number_in (by decide) (fun args n P PX h => ?_) ?_
  · unfold m_l_number_in at h; split at h
    all_goals first | exact ⟨_, rfl⟩ | exact False.elim h
  · rintro args ⟨part, rfl⟩ cdv A outer s H E Wx hg hr tk po
    show SG _ _ _ _ _ EnT (d_l_number_in part)
    unfold d_l_number_in
    exact (sg_asg (f := (fun x => x)) (ρ' := fun digits => [.d part, .d digits, .un]) 1 3 (e_sl (e_nm 0) (p_some (e_toint (T.z_int) (e_cmp (cm_eq (u64 hr)) (e_sl (e_nm 0) (p_none) (p_some (e_int))) (e_str (x := Str.ofString "-"))))) (p_none)) (g_nm 1 nd) rfl id_inj rfl (by decide) (fun _ => rfl) (fun digits => sg_if ((tw_or (t_cmp (cm_eq (u64 hr)) (e_nm 1) (e_str (x := Str.ofString ""))) (tw_or (t_cmp (cm_ne (u64 hr)) ((o_lcQ (own := [("_law_sign", 2)]) (t := (.nm 2)) (f := chD) (mu := ret) (ee := (fun a ρ => ρ.set 2 (.d (chD a)))) (fun _ => rfl) (fun x ρ => setT_1 2 chD x ρ) rfl nd (w_strZ (e_nm 1)) (blkOk_by (own := [("_law_sign", 2)]) (N := sc_l_number_in_N) (sc := defScope s_l_number_in) (by decide +kernel)) (fun _ _ _ _ _ => g_nm 2 nd) (fun _ _ _ _ _ => ts_one (t_cmp (cm_notinS) (e_nm 2) (e_str (x := Str.ofString "0123456789")))) (fun _ _ _ _ _ => e_nm 2)).e) ((o_lstL (al_nil)).e)) (tw_or1 (t_cmp (cm_gt) (e_lenI (T.z_len) (e_nm 1)) (e_int))))).t) rfl
    (sg_retP (d := .non) (e_non) rfl rfl)
    (sg_push (sg_if ((tw_and (t_cmp (cm_eq (u64 hr)) (e_ix (e_nm 1) (e_int)) (e_str (x := Str.ofString "0"))) (tw_and1 (t_cmp (cm_ne (u64 hr)) (e_nm 0) (e_str (x := Str.ofString "0"))))).t) rfl
    (sg_retP (d := .non) (e_non) rfl rfl)
    (sg_push (sg_retT (e_intT (T.z_int) (e_nm 0)) rfl (fun _ => rfl)))))))
end
end Q81

namespace Q81
open PySem PySem.Spec L2 PL LamX
section
variable {P : Program} {w : World} {K : PySem.W.Frag} {mg : Str → Option Value} {base : Heap} (T : Facts K mg)
include T
set_option maxHeartbeats 0 in
theorem ok_l_bent_text : FnG P w K mg base 2 T.f_l_bent_text T.d_l_bent_text ["_law_feed_here", "_law_whole"] (spM ((penG.wt T.tb mg).wc false) K mg 2 m_l_bent_text) := by
  have nd := sc_l_bent_text.nd
  refine fn_okG (m := m_l_bent_text) (Sh := fun args => ∃ whole : D, args = [.pen, .d whole]) T.F_l_bent_text sc_l_bent_text (by decide) (fun args n P PX h => ?_) ?_
  · unfold m_l_bent_text at h; split at h
    all_goals first | exact ⟨_, rfl⟩ | exact False.elim h
  · rintro args ⟨whole, rfl⟩ cdv A outer s H E Wx hg hr tk po
    show SG _ _ _ _ _ EnT (d_l_bent_text whole)
    unfold d_l_bent_text
    exact (sg_asg (f := .int) (ρ' := fun spot => [.pen, .d whole, .d (.int spot), .un, .un, .un, .un]) 2 7 (e_call (ps := ["_law_feed_here", "_law_bound"]) ⟨ok_l_take T, T.g_l_take, T.F_l_take.kp⟩ hg (hr.mono (by decide)) tk T.B_l_take (v_pen 0 (v_cons (e_add (e_lenI (T.z_len) (e_nm 1)) (e_int)) (v_nil)))) (g_nm 2 nd) rfl int_inj rfl (by decide) (fun _ => rfl) (fun spot => sg_asg (f := (fun x => x)) (ρ' := fun sign => [.pen, .d whole, .d (.int spot), .d sign, .un, .un, .un]) 3 7 (e_ix (e_str (x := Str.ofString " ;-0a:={}\n9zA")) (e_call (ps := ["_law_feed_here", "_law_bound"]) ⟨ok_l_take T, T.g_l_take, T.F_l_take.kp⟩ hg (hr.mono (by decide)) tk T.B_l_take (v_pen 0 (v_cons (e_int) (v_nil))))) (g_nm 3 nd) rfl id_inj rfl (by decide) (fun _ => rfl) (fun sign => sg_asg (f := .lst) (ρ' := fun parts => [.pen, .d whole, .d (.int spot), .d sign, .d (.lst parts), .un, .un]) 4 7 ((o_split (e_nm 1) (e_str (x := Str.ofString " "))).e) (g_nm 4 nd) rfl lst_inj rfl (by decide) (fun _ => rfl) (fun parts => sg_asg (f := .int) (ρ' := fun place => [.pen, .d whole, .d (.int spot), .d sign, .d (.lst parts), .d (.int place), .un]) 5 7 (e_call (ps := ["_law_feed_here", "_law_bound"]) ⟨ok_l_take T, T.g_l_take, T.F_l_take.kp⟩ hg (hr.mono (by decide)) tk T.B_l_take (v_pen 0 (v_cons (e_lenI (T.z_len) (e_nm 4)) (v_nil)))) (g_nm 5 nd) rfl int_inj rfl (by decide) (fun _ => rfl) (fun place => sg_asg (f := .lst) (ρ' := fun someV => [.pen, .d whole, .d (.int spot), .d sign, .d (.lst parts), .d (.int place), .d (.lst someV)]) 6 7 ((o_lstL (al_cons (e_add (e_add (e_sl (e_nm 1) (p_none) (p_some (e_nm 2))) (e_nm 3)) (e_sl (e_nm 1) (p_some (e_nm 2)) (p_none))) (al_cons (e_add (e_add (e_sl (e_nm 1) (p_none) (p_some (e_nm 2))) (e_nm 3)) (e_sl (e_nm 1) (p_some (e_add (e_nm 2) (e_int))) (p_none))) (al_cons (e_add (e_sl (e_nm 1) (p_none) (p_some (e_nm 2))) (e_sl (e_nm 1) (p_some (e_add (e_nm 2) (e_int))) (p_none))) (al_nil))))).e) (g_nm 6 nd) rfl lst_inj rfl (by decide) (fun _ => rfl) (fun someV => sg_asg (f := .lst) (ρ' := fun someV1 => [.pen, .d whole, .d (.int spot), .d sign, .d (.lst parts), .d (.int place), .d (.lst someV1)]) 6 7 (e_add (e_nm 6) ((o_lstL (al_cons (e_sl (e_nm 1) (p_none) (p_some (e_nm 2))) (al_cons (e_sl (e_nm 1) (p_some (e_nm 2)) (p_none)) (al_cons (e_add (e_nm 1) (e_nm 3)) (al_cons (e_join (e_str (x := Str.ofString " ")) (e_add (e_sl (e_nm 4) (p_none) (p_some (e_nm 5))) (e_sl (e_nm 4) (p_some (e_add (e_nm 5) (e_int))) (p_none)))) (al_nil)))))).e)) (g_nm 6 nd) rfl lst_inj rfl (by decide) (fun _ => rfl) (fun someV1 => sg_asg (f := .lst) (ρ' := fun someV2 => [.pen, .d whole, .d (.int spot), .d sign, .d (.lst parts), .d (.int place), .d (.lst someV2)]) 6 7 (e_add (e_nm 6) ((o_lstL (al_cons (e_join (e_str (x := Str.ofString " ")) (e_add (e_sl (e_nm 4) (p_none) (p_some (e_add (e_nm 5) (e_int)))) (e_sl (e_nm 4) (p_some (e_nm 5)) (p_none)))) (al_cons (e_add (e_add (e_nm 1) (e_str (x := Str.ofString "; "))) (e_nm 1)) (al_cons (e_add (e_add (e_nm 1) (e_str (x := Str.ofString "\n"))) (e_nm 1)) (al_nil))))).e)) (g_nm 6 nd) rfl lst_inj rfl (by decide) (fun _ => rfl) (fun someV2 => sg_asg (f := .lst) (ρ' := fun someV3 => [.pen, .d whole, .d (.int spot), .d sign, .d (.lst parts), .d (.int place), .d (.lst someV3)]) 6 7 (e_add (e_nm 6) ((o_lstL (al_cons (e_upper (e_nm 1)) (al_cons ((o_lstL (al_cons (e_sl (e_nm 1) (p_none) (p_some (e_int))) (al_nil))).e) (al_cons (e_non) (al_cons (e_int) (al_cons (e_str (x := Str.ofString "")) (al_cons (e_str (x := Str.ofString "-")) (al_cons (e_str (x := Str.ofString "- ")) (al_cons (e_str (x := Str.ofString "try { - } else { - }")) (al_nil)))))))))).e)) (g_nm 6 nd) rfl lst_inj rfl (by decide) (fun _ => rfl) (fun someV3 => sg_retT (e_ix (e_add (e_nm 6) ((o_lstL (al_cons (e_str (x := Str.ofString "set a 1000000000000000001")) (al_nil))).e)) (e_call (ps := ["_law_feed_here", "_law_bound"]) ⟨ok_l_take T, T.g_l_take, T.F_l_take.kp⟩ hg (hr.mono (by decide)) tk T.B_l_take (v_pen 0 (v_cons (e_int) (v_nil))))) rfl (fun _ => rfl))))))))))
end
end Q81

namespace Q81
open PySem PySem.Spec L2 PL LamX
section
variable {P : Program} {w : World} {K : PySem.W.Frag} {mg : Str → Option Value} {base : Heap} (T : Facts K mg)
include T
set_option maxHeartbeats 0 in
theorem walk_l_heard {kk : Nat} (hkk : 1 ≤ kk) : WalkL ((penG.wt T.tb mg).wc false) P w K mg base kk "_law_heard" "_law_ask" T.f_l_heard s_l_heard sc_l_heard_N d_l_heard := by
  intro f c' q σ ds call m cdv A outer s H E Wx hg hr tk po hcm hcall
  replace hr := hr.mono hkk
  have nd := sc_l_heard.nd
  obtain rfl := hcm [.d .non, .d .non, .un]
  unfold d_l_heard
  exact (sg_asgP (d := .non) (ρ' := [.lam f c' q σ ds, .d .non, .un, .un]) 1 (e_non) (g_nm 1 nd) rfl rfl (sg_asgP (d := .non) (ρ' := [.lam f c' q σ ds, .d .non, .d .non, .un]) 2 (e_non) (g_nm 2 nd) rfl rfl (sg_tryAsg (xs := [(Str.ofString "RewindError", _, .ref T.C_RewindError), (Str.ofString "Refused", _, .ref T.C_Refused), (Str.ofString "Full", _, .ref T.C_Full), (Str.ofString "TooLong", _, .ref T.C_TooLong), (Str.ofString "TooLarge", _, .ref T.C_TooLarge)]) (i := 3) (i2 := 2) (j := 1) (ok := fun found => [.lam f c' q σ ds, .d found, .d .non, .un]) (emb := fun err => [.lam f c' q σ ds, .d .non, .exc err, .un]) T.ei rfl rfl rfl nd rfl rfl rfl rfl rfl rfl (lz 5 rfl (by decide)) (ap_cons (nmG (x := Str.ofString "RewindError") (by decide) T.m_RewindError) (ap_cons (nmG (x := Str.ofString "Refused") (by decide) T.m_Refused) (ap_cons (nmG (x := Str.ofString "Full") (by decide) T.m_Full) (ap_cons (nmG (x := Str.ofString "TooLong") (by decide) T.m_TooLong) (ap_cons (nmG (x := Str.ofString "TooLarge") (by decide) T.m_TooLarge) (ap_nil)))))) (ap_cons (List.mem_of_getElem? (i := 0) rfl) (ap_cons (List.mem_of_getElem? (i := 1) rfl) (ap_cons (List.mem_of_getElem? (i := 2) rfl) (ap_cons (List.mem_of_getElem? (i := 3) rfl) (ap_cons (List.mem_of_getElem? (i := 4) rfl) (ap_nil)))))) (by decide) (by decide) (fun W pn xe tk' _ => hcall W pn xe _ _ tk') rfl (fun _ => rfl) (fun found => sg_ifP (t_cmp (cm_is) (e_nm 2) (e_non)) rfl
    (sg_retP (d := (.lst [found])) ((o_lstL (al_cons (e_nm 1) (al_nil))).e) rfl rfl)
    (sg_stuck)) (fun _ => rfl) (fun err => sg_ifP (x := false) (t_excN rfl 2) rfl
    (sg_stuck)
    (sg_push (sg_if ((tw_or (t_not (t_truth (e_isX (cv := .ref T.C_InvalidText) T.ei rfl 2 (by exact (nmG (x := Str.ofString "InvalidText") (by decide) T.m_InvalidText)) rfl (List.mem_of_getElem? (i := 10) rfl) (T.z_isinstance)))) (tw_or1 (t_not (t_truth (e_isX (cv := .type "ValueError") T.ei rfl 2 (by exact (nmB (x := Str.ofString "ValueError") (by decide) (T.z_ValueError) (by decide +kernel) (by decide))) rfl (List.mem_of_getElem? (i := 11) rfl) (T.z_isinstance)))))).t) rfl
    (sg_retP (d := (.str (Str.ofString "odd"))) (e_str (x := Str.ofString "odd")) rfl rfl)
    (sg_push (sg_if (t_truth (e_isXT (xs := [(Str.ofString "InvalidScript", _, .ref T.C_InvalidScript), (Str.ofString "InvalidState", _, .ref T.C_InvalidState), (Str.ofString "InvalidProgram", _, .ref T.C_InvalidProgram), (Str.ofString "InvalidCommand", _, .ref T.C_InvalidCommand), (Str.ofString "InvalidLine", _, .ref T.C_InvalidLine)]) T.ei rfl 2 (by exact ap_cons ⟨(nmG (x := Str.ofString "InvalidScript") (by decide) T.m_InvalidScript), rfl⟩ (ap_cons ⟨(nmG (x := Str.ofString "InvalidState") (by decide) T.m_InvalidState), rfl⟩ (ap_cons ⟨(nmG (x := Str.ofString "InvalidProgram") (by decide) T.m_InvalidProgram), rfl⟩ (ap_cons ⟨(nmG (x := Str.ofString "InvalidCommand") (by decide) T.m_InvalidCommand), rfl⟩ (ap_cons ⟨(nmG (x := Str.ofString "InvalidLine") (by decide) T.m_InvalidLine), rfl⟩ (ap_nil)))))) (ap_cons (List.mem_of_getElem? (i := 5) rfl) (ap_cons (List.mem_of_getElem? (i := 6) rfl) (ap_cons (List.mem_of_getElem? (i := 7) rfl) (ap_cons (List.mem_of_getElem? (i := 8) rfl) (ap_cons (List.mem_of_getElem? (i := 9) rfl) (ap_nil)))))) (lz 5 rfl (by decide)) (T.z_isinstance))) rfl
    (sg_retP (d := (.str (Str.ofString "odd"))) (e_str (x := Str.ofString "odd")) rfl rfl)
    (sg_push (sg_retT (e_tupL (al_cons (e_str (x := Str.ofString "text")) (al_cons (e_fldX (ys := [Str.ofString "InvalidText"]) T.fo_position rfl 2) (al_nil)))) rfl (fun _ => rfl)))))))))))
end
end Q81

namespace Q81
open PySem PySem.Spec L2 PL LamX
section
variable {P : Program} {w : World} {K : PySem.W.Frag} {mg : Str → Option Value} {base : Heap} (T : Facts K mg)
include T
set_option maxHeartbeats 0 in
theorem ok_l_full_in : FnG P w K mg base 2 T.f_l_full_in T.d_l_full_in ["_law_row"] (spM ((penG.wt T.tb mg).wc false) K mg 1 m_l_full_in) := by
  have nd := sc_l_full_in.nd
  refine fn_okG (m := m_l_full_in) (Sh := fun args => ∃ row : D, args = [.d row]) T.F_l_full_in sc_l_full_in (by decide) (fun args n P PX h => ?_) ?_
  · unfold m_l_full_in at h; split at h
    all_goals first | exact ⟨_, rfl⟩ | exact False.elim h
  · rintro args ⟨row, rfl⟩ cdv A outer s H E Wx hg hr tk po
    show SG _ _ _ _ _ EnT (d_l_full_in row)
    unfold d_l_full_in
    exact (sg_if (t_cmp (cm_eq (u64 hr)) (e_nm 0) (e_str (x := Str.ofString "-"))) rfl
    (sg_retP (d := (.tup [])) (e_tupL (al_nil)) rfl rfl)
    (sg_push (sg_ownP (d := []) (ρ' := [.d row, .own [], .un, .un]) 1 (o_lstL (al_nil)) nd rfl rfl (sg_forI (t := (.nm 2)) (f := (fun y : D => y)) (emb := (fun j : List D => [.d row, .own j, .un, .un])) (e := (fun a j => [.d row, .own j, .d a, .un])) po rfl (w_seqZ ((o_split (e_nm 0) (e_str (x := Str.ofString " "))).e)) (g_nm 2 nd) rfl seqT_map id_inj (Le.same (Le.same (Le.same (Le.same (Le.nil))))) (fun x j => rfl) (fun j a b h => id_inj _ _ (by have q := congrArg (·[2]?) h; exact SV.d.inj (Option.some.inj q)))
    (fun part j => sg_asg (f := .lst) (ρ' := fun parts => [.d row, .own j, .d part, .d (.lst parts)]) 3 4 ((o_split (e_nm 2) (e_str (x := Str.ofString "="))).e) (g_nm 3 nd) rfl lst_inj rfl (by decide) (fun _ => rfl) (fun parts => sg_if ((tw_or (t_cmp (cm_neI (u64 hr)) (e_lenI (T.z_len) (e_nm 3)) (e_int)) (tw_or (t_not (t_truth (e_call (ps := ["_law_thing"]) ⟨ok_l_is_word T, T.g_l_is_word, T.F_l_is_word.kp⟩ hg (hr.mono (by decide)) tk T.B_l_is_word (v_cons (e_ix (e_nm 3) (e_int)) (v_nil))))) (tw_or1 (t_not (t_truth (e_call (ps := ["_law_thing"]) ⟨ok_l_is_number T, T.g_l_is_number, T.F_l_is_number.kp⟩ hg (hr.mono (by decide)) tk T.B_l_is_number (v_cons (e_call (ps := ["_law_part"]) ⟨ok_l_number_in T, T.g_l_number_in, T.F_l_number_in.kp⟩ hg (hr.mono (by decide)) tk T.B_l_number_in (v_cons (e_ix (e_nm 3) (e_int)) (v_nil))) (v_nil)))))))).t) rfl
    (sg_retP (d := .non) (e_non) rfl ⟨ret .non, rfl, rfl⟩)
    (sg_push (sg_if ((tw_and (t_cmp (cm_ne (u64 hr)) (e_nm 1) ((o_lstL (al_nil)).e)) (tw_and1 (t_cmp (cm_ge) (e_ix (e_ix (e_nm 1) (e_neg (e_int))) (e_int)) (e_ix (e_nm 3) (e_int))))).t) rfl
    (sg_retP (d := .non) (e_non) rfl ⟨ret .non, rfl, rfl⟩)
    (sg_push (sg_app (f := .tup) (ρ' := fun app => [.d row, .own (j ++ [(.tup app)]), .d part, .d (.lst parts)]) (xs := j) 1 4 (e_tupL (al_cons (e_ix (e_nm 3) (e_int)) (al_cons (e_call (ps := ["_law_part"]) ⟨ok_l_number_in T, T.g_l_number_in, T.F_l_number_in.kp⟩ hg (hr.mono (by decide)) tk T.B_l_number_in (v_cons (e_ix (e_nm 3) (e_int)) (v_nil))) (al_nil)))) rfl rfl tup_inj rfl (by decide) (fun _ => rfl) (fun app => sg_nil ⟨(j ++ [(.tup app)]), rfl, (Le.same (Le.same (Le.un (Le.un (Le.nil)))))⟩)))))))
    (fun j1 => sg_retP (d := (.tup j1)) (e_tuple (T.z_tuple) (e_nm 1)) rfl rfl)))))
end
end Q81

namespace Q81
open PySem PySem.Spec L2 PL LamX
section
variable {P : Program} {w : World} {K : PySem.W.Frag} {mg : Str → Option Value} {base : Heap} (T : Facts K mg)
include T
set_option maxHeartbeats 0 in
theorem ok_l_due : FnG P w K mg base 3 T.f_l_due T.d_l_due ["_law_thing"] (spM ((penG.wt T.tb mg).wc false) K mg 1 m_l_due) := by
  have nd := sc_l_due.nd
  refine fn_okG (m := m_l_due) (Sh := fun args => ∃ thing : D, args = [.d thing]) T.F_l_due sc_l_due (by decide) (fun args n P PX h => ?_) ?_
  · unfold m_l_due at h; split at h
    all_goals first | exact ⟨_, rfl⟩ | exact False.elim h
  · rintro args ⟨thing, rfl⟩ cdv A outer s H E Wx hg hr tk po
    show SG _ _ _ _ _ EnT (d_l_due thing)
    unfold d_l_due
    exact (sg_ifP (t_not (t_truth (e_isi .str (T.z_isinstance) (T.z_str) (by decide +kernel) (e_nm 0)))) rfl
    (sg_retP (d := (.tup [(.str (Str.ofString "text")), .non])) (e_tupL (al_cons (e_str (x := Str.ofString "text")) (al_cons (e_non) (al_nil)))) rfl rfl)
    (sg_push (sg_asg (f := .lst) (ρ' := fun rows => [.d thing, .d (.lst rows), .un, .un, .un, .un, .un]) 1 7 ((o_split (e_nm 0) (e_str (x := Str.ofString "\n"))).e) (g_nm 1 nd) rfl lst_inj rfl (by decide) (fun _ => rfl) (fun rows => sg_if (t_cmp (cm_is) (e_call (ps := ["_law_row"]) ⟨ok_l_full_in T, T.g_l_full_in, T.F_l_full_in.kp⟩ hg (hr.mono (by decide)) tk T.B_l_full_in (v_cons (e_ix (e_nm 1) (e_int)) (v_nil))) (e_non)) rfl
    (sg_retP (d := (.tup [(.str (Str.ofString "text")), (.int 0)])) (e_tupL (al_cons (e_str (x := Str.ofString "text")) (al_cons (e_int) (al_nil)))) rfl rfl)
    (sg_push (sg_asgP (d := (.tup [])) (ρ' := [.d thing, .d (.lst rows), .d (.tup []), .un, .un, .un, .un]) 2 (e_tupL (al_nil)) (g_nm 2 nd) rfl rfl (sg_forI (t := (.nm 3)) (f := D.int) (emb := (fun j : List D => [.d thing, .d (.lst rows), .d (.tup j), .un, .un, .un, .un])) (e := (fun a j => [.d thing, .d (.lst rows), .d (.tup j), .d (.int a), .un, .un, .un])) po rfl (w_rng2Z (T.z_range) (e_int) (e_lenI (T.z_len) (e_nm 1))) (g_nm 3 nd) rfl (fun _ => rfl) int_inj (Le.same (Le.same (Le.same (Le.same (Le.same (Le.same (Le.same (Le.nil)))))))) (fun x j => rfl) (fun j a b h => int_inj _ _ (by have q := congrArg (·[3]?) h; exact SV.d.inj (Option.some.inj q)))
    (fun k j => sg_asg3 (f1 := fun a : D × D × D => a.1) (f2 := fun a : D × D × D => a.2.1) (f3 := fun a : D × D × D => a.2.2) (ρ' := fun p => [.d thing, .d (.lst rows), .d (.tup j), .d (.int k), .d p.1, .d p.2.1, .d p.2.2]) 4 5 6 7 (e_part (e_ix (e_nm 1) (e_nm 3)) (e_str (x := Str.ofString ": "))) (g_tp rfl (gs_cons (g_nm 4 nd) (gs_cons (g_nm 5 nd) (gs_cons (g_nm 6 nd) (gs_nil))))) rfl (fun a b h1 h2 h3 => Prod.ext h1 (Prod.ext h2 h3)) rfl (by decide) (by decide) (by decide) (by decide) (by decide) (by decide) (fun _ => rfl) (fun p => sg_if ((tw_or (t_cmp (cm_eq (u64 hr)) (e_nm 5) (e_str (x := Str.ofString ""))) (tw_or (t_not (t_truth (e_call (ps := ["_law_thing"]) ⟨ok_l_is_word T, T.g_l_is_word, T.F_l_is_word.kp⟩ hg (hr.mono (by decide)) tk T.B_l_is_word (v_cons (e_nm 4) (v_nil))))) (tw_or1 (t_cmp (cm_is) (e_call (ps := ["_law_row"]) ⟨ok_l_full_in T, T.g_l_full_in, T.F_l_full_in.kp⟩ hg (hr.mono (by decide)) tk T.B_l_full_in (v_cons (e_nm 6) (v_nil))) (e_non))))).t) rfl
    (sg_retP (d := (.tup [(.str (Str.ofString "text")), (.int k)])) (e_tupL (al_cons (e_str (x := Str.ofString "text")) (al_cons (e_nm 3) (al_nil)))) rfl ⟨ret (.tup [(.str (Str.ofString "text")), (.int k)]), rfl, rfl⟩)
    (sg_push (sg_asg (f := .tup) (ρ' := fun pile => [.d thing, .d (.lst rows), .d (.tup pile), .d (.int k), .d p.1, .d p.2.1, .d p.2.2]) 2 7 (e_add (e_tupL (al_cons (e_tupL (al_cons (e_nm 4) (al_cons (e_call (ps := ["_law_row"]) ⟨ok_l_full_in T, T.g_l_full_in, T.F_l_full_in.kp⟩ hg (hr.mono (by decide)) tk T.B_l_full_in (v_cons (e_nm 6) (v_nil))) (al_nil)))) (al_nil))) (e_nm 2)) (g_nm 2 nd) rfl tup_inj rfl (by decide) (fun _ => rfl) (fun pile => sg_nil ⟨pile, rfl, (Le.same (Le.same (Le.same (Le.un (Le.un (Le.un (Le.un (Le.nil))))))))⟩)))))
    (fun j1 => sg_retT ((o_lstL (al_cons (e_tupL (al_cons (e_call (ps := ["_law_row"]) ⟨ok_l_full_in T, T.g_l_full_in, T.F_l_full_in.kp⟩ hg (hr.mono (by decide)) tk T.B_l_full_in (v_cons (e_ix (e_nm 1) (e_int)) (v_nil))) (al_cons (e_nm 2) (al_nil)))) (al_nil))).e) rfl (fun _ => rfl)))))))))
end
end Q81

namespace Q81
open PySem PySem.Spec L2 PL LamX
section
variable {P : Program} {w : World} {K : PySem.W.Frag} {mg : Str → Option Value} {base : Heap} (T : Facts K mg)
include T
set_option maxHeartbeats 0 in
theorem ok_law (TB_law : TabB base mg T.cc_law T.P_law) (holds : d_law n0 (fun d _ => d = .bl true) (fun _ _ => False)) : FnG P w K mg base 10 T.f_law T.d_law ["_law_script"] (spLawT K T.tb) :=
  have nd := sc_law.nd
  law_defKC ((penG.wt T.tb mg).wc false) (b := d_law) (k := 9) (NR := ["_law_turn", "_law_now", "_law_whole", "_law_bent", "_law_things", "_law_part", "_law_due_here", "_law_full", "_law_words", "_law_thing", "_law_k"]) T.F_law sc_law rfl rfl rfl rfl (by first | exact .inl rfl | exact .inr rfl) (by decide) (by decide) (by decide) ((ok_l_feed T.F_l_feed T.z_list).mono (by decide)) T.g_l_feed T.F_l_feed.kp T.B_l_feed (fun cdv A outer s H E Wx hcc hg hr tk po => by
    unfold d_law
    exact (sg_forI (t := (.nm 2)) (f := D.int) (emb := (fun j : Unit => [.un, .pen, .un, .un, .un, .un, .un, .un, .un, .un, .un, .un, .un])) (e := (fun a j => [.un, .pen, .d (.int a), .un, .un, .un, .un, .un, .un, .un, .un, .un, .un])) po rfl (w_rngK (w_rng1Z (T.z_range) (e_int))) (g_nm 2 nd) rfl (fun _ => rfl) int_inj (Le.same (Le.same (Le.same (Le.same (Le.same (Le.same (Le.same (Le.same (Le.same (Le.same (Le.same (Le.same (Le.same (Le.nil)))))))))))))) (fun x j => rfl) (fun j a b h => int_inj _ _ (by have q := congrArg (·[2]?) h; exact SV.d.inj (Option.some.inj q)))
    (fun turn j => sg_asg (f := (fun x => x)) (ρ' := fun now => [.un, .pen, .d (.int turn), .d now, .un, .un, .un, .un, .un, .un, .un, .un, .un]) 3 13 (e_call (ps := ["_law_feed_here", "_law_most", "_law_keys"]) ⟨ok_l_state T, T.g_l_state, T.F_l_state.kp⟩ hg (hr.mono (by decide)) tk T.B_l_state (v_pen 1 (v_cons (e_asI (e_ix ((o_lstL (al_cons (e_int) (al_cons (e_int) (al_cons (e_int) (al_cons (e_int) (al_cons (e_int) (al_nil))))))).e) (e_nm 2))) (v_cons (e_int) (v_nil))))) (g_nm 3 nd) rfl id_inj rfl (by decide) (fun _ => rfl) (fun now => sg_asg (f := (fun x => x)) (ρ' := fun whole => [.un, .pen, .d (.int turn), .d now, .d whole, .un, .un, .un, .un, .un, .un, .un, .un]) 4 13 (e_call (ps := ["_law_now"]) ⟨ok_l_state_text T, T.g_l_state_text, T.F_l_state_text.kp⟩ hg (hr.mono (by decide)) tk T.B_l_state_text (v_cons (e_nm 3) (v_nil))) (g_nm 4 nd) rfl id_inj rfl (by decide) (fun _ => rfl) (fun whole => sg_asg (f := (fun x => x)) (ρ' := fun bent => [.un, .pen, .d (.int turn), .d now, .d whole, .d bent, .un, .un, .un, .un, .un, .un, .un]) 5 13 (e_call (ps := ["_law_feed_here", "_law_whole"]) ⟨ok_l_bent_text T, T.g_l_bent_text, T.F_l_bent_text.kp⟩ hg (hr.mono (by decide)) tk T.B_l_bent_text (v_pen 1 (v_cons (e_nm 4) (v_nil)))) (g_nm 5 nd) rfl id_inj rfl (by decide) (fun _ => rfl) (fun bent => sg_own (ρ' := fun things => [.un, .pen, .d (.int turn), .d now, .d whole, .d bent, .own things, .un, .un, .un, .un, .un, .un]) 6 13 (o_lstL (al_cons (e_nm 4) (al_cons (e_nm 5) (al_cons (e_call (ps := ["_law_feed_here", "_law_whole"]) ⟨ok_l_bent_text T, T.g_l_bent_text, T.F_l_bent_text.kp⟩ hg (hr.mono (by decide)) tk T.B_l_bent_text (v_pen 1 (v_cons (e_nm 4) (v_nil)))) (al_cons (e_str (x := Str.ofString "b=1 a=2")) (al_cons (e_str (x := Str.ofString "a=1 a=1")) (al_cons (e_str (x := Str.ofString "a=1000000000000000001")) (al_cons (e_str (x := Str.ofString "a=-0")) (al_nil))))))))) nd rfl rfl (by decide) (fun _ => rfl) (fun things => sg_own (ρ' := fun things1 => [.un, .pen, .d (.int turn), .d now, .d whole, .d bent, .own things1, .un, .un, .un, .un, .un, .un]) 6 13 (o_catOwn 6 ((o_lstL (al_cons (e_str (x := Str.ofString "a=+1")) (al_cons (e_str (x := Str.ofString "a=1_0")) (al_nil)))).e)) nd rfl rfl (by decide) (fun _ => rfl) (fun things1 => sg_asg (f := (fun x => x)) (ρ' := fun part => [.un, .pen, .d (.int turn), .d now, .d whole, .d bent, .own things1, .d part, .un, .un, .un, .un, .un]) 7 13 (e_call (ps := ["_law_feed_here", "_law_whole"]) ⟨ok_l_bent_text T, T.g_l_bent_text, T.F_l_bent_text.kp⟩ hg (hr.mono (by decide)) tk T.B_l_bent_text (v_pen 1 (v_cons (e_str (x := Str.ofString "a: x=1 y=-5")) (v_nil)))) (g_nm 7 nd) rfl id_inj rfl (by decide) (fun _ => rfl) (fun part => sg_own (ρ' := fun things2 => [.un, .pen, .d (.int turn), .d now, .d whole, .d bent, .own things2, .d part, .un, .un, .un, .un, .un]) 6 13 (o_catOwn 6 ((o_lstL (al_cons (e_add (e_add (e_call (ps := ["_law_full"]) ⟨ok_l_full_text T, T.g_l_full_text, T.F_l_full_text.kp⟩ hg (hr.mono (by decide)) tk T.B_l_full_text (v_cons (e_ix (e_nm 3) (e_int)) (v_nil))) (e_str (x := Str.ofString "\n"))) (e_strX (T.z_str) hg hr (e_nm 7))) (al_cons (e_str (x := Str.ofString "-\na:")) (al_cons (e_str (x := Str.ofString "-\na: ")) (al_nil))))).e)) nd rfl rfl (by decide) (fun _ => rfl) (fun things2 => sg_ifA (emb := (fun j1 : List D => [.un, .pen, .d (.int turn), .d now, .d whole, .d bent, .own j1, .d part, .un, .un, .un, .un, .un])) ((tw_and (t_truth (e_isi .str (T.z_isinstance) (T.z_str) (by decide +kernel) (e_nm 5))) (tw_and1 (t_cmp (cm_lt) (e_lenI (T.z_len) (e_nm 5)) (e_int)))).t) rfl
    (sg_app (f := (fun x => x)) (ρ' := fun app => [.un, .pen, .d (.int turn), .d now, .d whole, .d bent, .own (things2 ++ [app]), .d part, .un, .un, .un, .un, .un]) (xs := things2) 6 13 (e_call (ps := ["_law_feed_here", "_law_whole"]) ⟨ok_l_bent_text T, T.g_l_bent_text, T.F_l_bent_text.kp⟩ hg (hr.mono (by decide)) tk T.B_l_bent_text (v_pen 1 (v_cons (e_nm 5) (v_nil)))) rfl rfl id_inj rfl (by decide) (fun _ => rfl) (fun app => sg_nil ⟨(things2 ++ [app]), rfl, (Le.same (Le.same (Le.same (Le.same (Le.same (Le.same (Le.same (Le.same (Le.same (Le.same (Le.same (Le.same (Le.same (Le.nil))))))))))))))⟩))
    (sg_nil ⟨things2, rfl, (Le.same (Le.same (Le.same (Le.same (Le.same (Le.same (Le.same (Le.same (Le.same (Le.same (Le.same (Le.same (Le.same (Le.nil))))))))))))))⟩)
    (fun j1 => sg_frz (ρ' := [.un, .pen, .d (.int turn), .d now, .d whole, .d bent, .d (.lst j1), .d part, .un, .un, .un, .un, .un]) 6 rfl (sg_forIP (t := (.nm 11)) (f := (fun y : D => y)) (emb := (fun j2 : Unit => [.un, .pen, .d (.int turn), .d now, .d whole, .d bent, .d (.lst j1), .d part, .un, .un, .un, .un, .un])) (e := (fun a j2 => [.un, .pen, .d (.int turn), .d now, .d whole, .d bent, .d (.lst j1), .d part, .un, .un, .un, .d a, .un])) po rfl (w_seqZ (e_nm 6)) (g_nm 11 nd) rfl seqT_map id_inj (Le.same (Le.same (Le.same (Le.same (Le.same (Le.same (Le.same (Le.same (Le.same (Le.same (Le.same (Le.same (Le.same (Le.nil)))))))))))))) (fun x j => rfl) (fun j a b h => id_inj _ _ (by have q := congrArg (·[11]?) h; exact SV.d.inj (Option.some.inj q)))
    (fun thing j2 => sg_asg (f := (fun x => x)) (ρ' := fun due => [.un, .pen, .d (.int turn), .d now, .d whole, .d bent, .d (.lst j1), .d part, .d due, .un, .un, .d thing, .un]) 8 13 (e_repr (T.z_repr) hg hr (e_call (ps := ["_law_thing"]) ⟨ok_l_due T, T.g_l_due, T.F_l_due.kp⟩ hg (hr.mono (by decide)) tk T.B_l_due (v_cons (e_nm 11) (v_nil)))) (g_nm 8 nd) rfl id_inj rfl (by decide) (fun _ => rfl) (fun due => sg_if (t_cmp (cm_ne (u64 hr)) (e_repr (T.z_repr) hg hr (e_lamcall (a := "_law_ask") (k := 7) T.F_l_heard T.B_l_heard sc_l_heard rfl (.inl rfl) (walk_l_heard T (by decide)) T.g_l_heard hg tk TB_law (hcc.symm.trans T.code_law) (List.mem_of_getElem? (i := 0) rfl) (fun p hp e => by cases hp with | head => rfl | tail _ hp => cases hp) (hr.mono (by decide)) (lamS_by (by show lamSB (defScope s_law) _ = true; decide +kernel)) rfl (fun _ _ _ _ _ => rfl) (fun A outer s H E f c' hg hr => e_call (ps := ["text"]) ⟨ok_read_state T, T.g_read_state, T.F_read_state.kp⟩ hg (hr.mono (by decide)) (L2.takes_of rfl rfl rfl rfl) T.B_read_state (v_cons (e_nm 11) (v_nil))))) (e_nm 8)) rfl
    (sg_retP (d := (.bl false)) (e_bl) rfl ⟨ret (.out (.bl false)), ⟨ret (.bl false), rfl, rfl⟩, rfl⟩)
    (sg_push (sg_if (t_cmp (cm_ne (u64 hr)) (e_repr (T.z_repr) hg hr (e_lamcall (a := "_law_ask") (k := 7) T.F_l_heard T.B_l_heard sc_l_heard rfl (.inl rfl) (walk_l_heard T (by decide)) T.g_l_heard hg tk TB_law (hcc.symm.trans T.code_law) (List.mem_of_getElem? (i := 0) rfl) (fun p hp e => by cases hp with | head => rfl | tail _ hp => cases hp) (hr.mono (by decide)) (lamS_by (by show lamSB (defScope s_law) _ = true; decide +kernel)) rfl (fun _ _ _ _ _ => rfl) (fun A outer s H E f c' hg hr => e_callK0 (ps := ["text"]) ⟨ok_read_state T, T.g_read_state, T.F_read_state.kp⟩ hg (hr.mono (by decide)) (L2.takes_of rfl rfl rfl rfl) (kbd (n := 0) (ks := ["text"]) (order := [0]) T.F_read_state fun _ _ _ _ _ _ us ws h1 h2 => match us, ws, h1, h2 with | [], [_], _, _ => rfl) (kv_cons (e_nm 11) (kv_nil))))) (e_nm 8)) rfl
    (sg_retP (d := (.bl false)) (e_bl) rfl ⟨ret (.out (.bl false)), ⟨ret (.bl false), rfl, rfl⟩, rfl⟩)
    (sg_push (sg_nil ⟨(), rfl, (Le.same (Le.same (Le.same (Le.same (Le.same (Le.same (Le.same (Le.same (Le.un (Le.same (Le.same (Le.un (Le.same (Le.nil))))))))))))))⟩))))))
    (fun j3 => sg_nil ⟨(), rfl, (Le.same (Le.same (Le.un (Le.un (Le.un (Le.un (Le.un (Le.un (Le.same (Le.same (Le.same (Le.same (Le.same (Le.nil))))))))))))))⟩)))))))))))
    (fun j4 => sg_asg (f := .tup) (ρ' := fun full => [.un, .pen, .un, .un, .un, .un, .un, .un, .un, .d (.tup full), .un, .un, .un]) 9 13 (e_tuple (T.z_tuple) ((o_lcQ (own := [("_law_k", 12)]) (t := (.nm 12)) (f := D.int) (mu := ret) (ee := (fun a ρ => ρ.set 12 (.d (.int a)))) (fun _ => rfl) (fun x ρ => setT_1 12 D.int x ρ) rfl nd (w_rngK (w_rng1Z (T.z_range) (e_int))) (blkOk_by (own := [("_law_k", 12)]) (N := sc_law_N) (sc := defScope s_law) (by decide +kernel)) (fun _ _ _ _ _ => g_nm 12 nd) (fun _ _ _ _ _ => ts_nil) (fun _ _ _ _ _ => e_tupL (al_cons (e_add (e_ix (e_str (x := Str.ofString "abcdefghij")) (e_fdiv (e_nm 12) (e_int))) (e_ix (e_str (x := Str.ofString "abcdefghij")) (e_mod (e_nm 12) (e_int)))) (al_cons (e_nm 12) (al_nil))))).e)) (g_nm 9 nd) rfl tup_inj rfl (by decide) (fun _ => rfl) (fun full => sg_asg (f := (fun x => x)) (ρ' := fun words => [.un, .pen, .un, .un, .un, .un, .un, .un, .un, .d (.tup full), .d words, .un, .un]) 10 13 (e_call (ps := ["_law_full"]) ⟨ok_l_full_text T, T.g_l_full_text, T.F_l_full_text.kp⟩ hg (hr.mono (by decide)) tk T.B_l_full_text (v_cons (e_nm 9) (v_nil))) (g_nm 10 nd) rfl id_inj rfl (by decide) (fun _ => rfl) (fun words => sg_if ((tw_or (t_cmp (cm_ne (u64 hr)) (e_call (ps := ["text"]) ⟨ok_read_state T, T.g_read_state, T.F_read_state.kp⟩ hg (hr.mono (by decide)) tk T.B_read_state (v_cons (e_nm 10) (v_nil))) (e_tupL (al_cons (e_nm 9) (al_cons (e_tupL (al_nil)) (al_nil))))) (tw_or1 (t_cmp (cm_ne (u64 hr)) (e_call (ps := ["text"]) ⟨ok_read_state T, T.g_read_state, T.F_read_state.kp⟩ hg (hr.mono (by decide)) tk T.B_read_state (v_cons (e_add (e_str (x := Str.ofString "-\na: ")) (e_nm 10)) (v_nil))) (e_tupL (al_cons (e_tupL (al_nil)) (al_cons (e_tupL (al_cons (e_tupL (al_cons (e_str (x := Str.ofString "a")) (al_cons (e_nm 9) (al_nil)))) (al_nil))) (al_nil))))))).t) rfl
    (sg_retP (d := (.bl false)) (e_bl) rfl rfl)
    (sg_push (sg_if (t_cmp (cm_ne (u64 hr)) (e_call (ps := ["text"]) ⟨ok_read_state T, T.g_read_state, T.F_read_state.kp⟩ hg (hr.mono (by decide)) tk T.B_read_state (v_cons (e_add (e_str (x := Str.ofString "-")) (e_repS (e_str (x := Str.ofString "\na: -")) (e_int))) (v_nil))) (e_tupL (al_cons (e_tupL (al_nil)) (al_cons (e_rep (e_tupL (al_cons (e_tupL (al_cons (e_str (x := Str.ofString "a")) (al_cons (e_tupL (al_nil)) (al_nil)))) (al_nil))) (e_int)) (al_nil))))) rfl
    (sg_retP (d := (.bl false)) (e_bl) rfl rfl)
    (sg_push (sg_retT (e_cmp (cm_eq (u64 hr)) (e_call (ps := ["text"]) ⟨ok_read_state T, T.g_read_state, T.F_read_state.kp⟩ hg (hr.mono (by decide)) tk T.B_read_state (v_cons (e_str (x := Str.ofString "x=1\na: x=1\nb: -")) (v_nil))) (e_tupL (al_cons (e_tupL (al_cons (e_tupL (al_cons (e_str (x := Str.ofString "x")) (al_cons (e_int) (al_nil)))) (al_nil))) (al_cons (e_tupL (al_cons (e_tupL (al_cons (e_str (x := Str.ofString "b")) (al_cons (e_tupL (al_nil)) (al_nil)))) (al_cons (e_tupL (al_cons (e_str (x := Str.ofString "a")) (al_cons (e_tupL (al_cons (e_tupL (al_cons (e_str (x := Str.ofString "x")) (al_cons (e_int) (al_nil)))) (al_nil))) (al_nil)))) (al_nil)))) (al_nil))))) rfl (fun _ => rfl)))))))))) holds
end
end Q81

namespace Q81
open PySem PySem.Spec L2 PL
theorem is_word_eq (x : D) : d_is_word x = ret (.bl (wordB x)) := by
  unfold d_is_word
  cases x with
  | str s =>
    simp only [isT, lenI, codesD, bnd_ret, thenB_bl, blB_bl, orB_ret, Bool.not_true, Bool.false_or]
    by_cases h1 : 1 ≤ (s.length : Int)
    · by_cases h2 : (s.length : Int) ≤ 8
      · simp only [h1, h2, decide_true, Bool.and_self, Bool.not_true, Bool.false_eq_true, if_false]
        rw [mapP_ret (g := fun k => .bl (lower k)) (short8 h2) fun k _ => in_abc k, bnd_ret, all_bls]
        simp [wordB, h1, h2]
      · simp [h1, h2, wordB]
    · simp [h1, wordB]
  | _ => simp [isT, orB, bnd_ret, wordB]
theorem l_is_word_eq (x : D) : d_l_is_word x = ret (.bl (wordB x)) := by
  unfold d_l_is_word
  cases x with
  | str s =>
    simp only [isT, lenI, codesD, bnd_ret, thenB_bl, blB_bl, orB_ret, Bool.not_true, Bool.false_or]
    by_cases h1 : 1 ≤ (s.length : Int)
    · by_cases h2 : (s.length : Int) ≤ 8
      · simp only [h1, h2, decide_true, Bool.and_self, Bool.not_true, Bool.false_eq_true, if_false]
        rw [selP_ret (p := fun k => !lower k) (g := chD) (short8 h2) (fun k _ => by
          show bnd (thenB (ret (.bl (!decide ((Str.mk #[k]).cps.toList < (Str.ofString "a").cps.toList)))) (ret (.bl (!decide ((Str.ofString "z").cps.toList < (Str.mk #[k]).cps.toList))))) _ = _
          rw [(az k).1, (az k).2, thenB_bl, bnd_ret, blB_bl, bnd_ret, ← Bool.decide_and]
          rfl) (fun k _ _ => rfl), bnd_ret, eqB_nil, bnd_ret]
        congr 2
        simp only [wordB, h1, h2, decide_true, Bool.true_and]
        induction s.cps.toList with
        | nil => rfl
        | cons k l ih =>
          rw [List.filter_cons, List.all_cons]
          cases q : lower k with
          | true => simpa [q] using ih
          | false => simp [q]
      · simp [h1, h2, wordB]
    · simp [h1, wordB]
  | _ => simp [isT, orB, bnd_ret, wordB]
theorem is_integer_eq (x : D) : d_is_integer x = ret (.bl (match x with | .int _ => true | _ => false)) := by
  unfold d_is_integer
  cases x <;> rfl
theorem is_value_eq (x : D) : d_is_value x = ret (.bl (numB x)) := by
  unfold d_is_value d_is_between
  rw [is_integer_eq]
  cases x with
  | int i =>
    simp only [cl_ret, andD_t, leD_int, thenB_bl]
    rfl
  | _ => simp only [cl_ret, andD_f, numB]
theorem l_is_number_eq (x : D) : d_l_is_number x = ret (.bl (numB x)) := by
  unfold d_l_is_number
  cases x with
  | int i =>
    simp only [isT, Bool.not_false, andD_t, absD, bnd_ret, intI, numB]
    congr 2
    rw [← Bool.decide_and]
    apply decide_eq_decide.mpr
    by_cases h : i < 0
    · rw [if_pos h]
      omega
    · rw [if_neg h]
      omega
  | _ => simp [isT, andD, bnd_ret, tru_bl, numB]
theorem word_gen : Gen d_l_word 10 IsW := by
  unfold d_l_word
  simp only [bnd_bnd, bnd_ret]
  apply Gen.up
  · apply Gen.dr (by decide) (by decide); intro r _ _
    apply Gen.cond
    · intro _
      apply Gen.dr (by decide) (by decide); intro q h0 h1
      obtain ⟨k, hk, e⟩ := ixSZ (s := Str.ofString "abc") h0 (by rw [show (Str.ofString "abc").length = 3 by decide +kernel]; omega)
      rw [e]
      refine Gen.ret (IsW.ch ?_)
      rw [show (Str.ofString "abc").cps.toList = [97, 98, 99] by decide +kernel] at hk
      simp only [List.mem_cons, List.not_mem_nil, or_false] at hk
      rcases hk with rfl | rfl | rfl <;> rfl
    · intro _
      apply Gen.dr (by decide) (by decide); intro m h0 h1
      rw [rngI_ret (by omega), bnd_ret]
      apply Gen.bind (Gen.map (c := 1) (Q := fun y => ∃ k, y = .str ⟨#[k]⟩ ∧ lower k = true) 8 (by rw [rngZ_len]; omega) fun x _ => ?_)
      · intro ys hys
        obtain ⟨ks, rfl, e, hp⟩ := signs_ok hys.2
        have hl := hys.1
        rw [List.length_map, rngZ_len] at hl
        exact Gen.is (joinD_signs ks (by omega)) ⟨_, rfl, wordB_signs ks (by omega) (by omega) hp⟩
      · refine Gen.dr (c := 0) (by decide) (by decide) fun q h2 h3 => ?_
        obtain ⟨k, hk, e⟩ := ixSZ (s := Str.ofString "abcdefghijklmnopqrstuvwxyz") h2 (by rw [show (Str.ofString "abcdefghijklmnopqrstuvwxyz").length = 26 by decide +kernel]; omega)
        rw [e]
        exact Gen.ret ⟨k, rfl, lower_of hk⟩
  · decide
theorem number_gen : Gen d_l_number 2 IsN := by
  unfold d_l_number
  apply Gen.up
  · apply Gen.dr (by decide) (by decide); intro r h0 h1
    apply Gen.dr (by decide) (by decide); intro q h2 h3
    refine Gen.pickL0 h2 (by simp; omega) fun y hy => ?_
    simp only [List.mem_cons, List.not_mem_nil, or_false] at hy
    rcases hy with rfl | rfl | rfl | rfl <;> exact ⟨_, rfl, by simp only [numB, Bool.and_eq_true, decide_eq_true_eq]; omega⟩
  · decide
end Q81

namespace Q81
open PySem PySem.Spec L2 PL
/-! ### pairs that are drawn -/
theorem pairs_gen {most rare : Int} {v : D → Bool} (h0 : 0 ≤ most) (h1 : most ≤ 50) (h2 : 0 ≤ rare) (h3 : rare ≤ 50) (hv : ∀ x, numB x = true → v x = true) (hn : 0 < rare → v .non = true) : Gen (d_l_pairs most rare) 700 fun d => ∃ j, DI v j ∧ j.length ≤ most.toNat ∧ d = .tup (pairsOf j) := by
  unfold d_l_pairs
  simp only [bnd_bnd]
  refine (Gen.dr (c := 650) (by omega) (by omega) fun r hr0 hr1 => ?_).up (by decide)
  rw [rngI_ret (by omega), bnd_ret]
  refine (Gen.forI (xs := rngZ 0 r.toNat) (i := 0) (c := 13) (d := 0) (n := r.toNat) (I := fun i j => DI v j ∧ j.length ≤ i) ?n (fun x _ i j hi ⟨hj, hl⟩ => ?b) (fun j ⟨hj, hl⟩ => ?k) ⟨DI.nil, Nat.le_refl _⟩).up ?c
  case n => rw [rngZ_len]; omega
  case c => rw [rngZ_len]; omega
  case k =>
    rw [rngZ_len] at hl
    rw [pairs_ret hj (by omega)]
    exact Gen.ret ⟨j, hj, by omega, rfl⟩
  case b =>
    refine (Gen.bind (c := 10) (d := 3) word_gen fun w hw => ?_).up (Nat.le_refl _)
    obtain ⟨s, rfl, hs⟩ := hw
    refine (Gen.bind (c := 2) (d := 1) number_gen fun z hz => ?_).up (Nat.le_refl _)
    obtain ⟨z, rfl, hz⟩ := hz
    rw [putW_ok (by omega), bnd_ret]
    have d1 : DI v (putD j (.inr s) (.int z)) := hj.put hs (hv _ hz)
    have l1 : (putD j (.inr s) (.int z)).length ≤ i + 1 := Nat.le_trans (putD_len _ _ _) (Nat.succ_le_succ hl)
    by_cases hr : 0 < rare
    · rw [decide_eq_true hr, andB_t, bnd_bnd]
      refine (Gen.dr (c := 0) hr (by omega) fun q _ _ => ?_).up (Nat.le_refl _)
      rw [bnd_ret]
      refine Gen.ite (c := 0) (fun _ => ?_) fun _ => Gen.ret ⟨d1, l1⟩
      rw [putW_ok (by omega), bnd_ret]
      refine Gen.ret ⟨d1.put hs (hn hr), ?_⟩
      have e : Sum.inr s ∈ (putD j (.inr s) (.int z)).map (·.1) := by
        by_cases q : Sum.inr s ∈ j.map (·.1)
        · rw [putD_has q, setK1_keys]; exact q
        · rw [putD_not q]; simp
      rw [putD_has e]
      have := congrArg List.length (setK1_keys (.inr s) .non (putD j (.inr s) (.int z)))
      simp only [List.length_map] at this
      omega
    · rw [decide_eq_false hr, andB_f, bnd_ret]
      exact (Gen.ret ⟨d1, l1⟩).up (show 0 ≤ 1 by decide)
end Q81

namespace Q81
open PySem PySem.Spec L2 PL
/-! ### texts cut -/
theorem cutS_drop (z : Str) (r : Nat) : (cutS z (some (r : Int)) none).cps.toList = z.cps.toList.drop r := by
  unfold cutS
  have hl : z.cps.toList.length = z.length := Array.length_toList
  rw [HT.sIx_none, HT.sIx_nat]
  show ((z.cps.toList.drop (min r z.length)).take (z.length - min r z.length)) = _
  by_cases h : r ≤ z.length
  · rw [Nat.min_eq_left h, List.take_of_length_le (by rw [List.length_drop]; omega)]
  · rw [Nat.min_eq_right (by omega), List.drop_of_length_le (by omega), List.drop_of_length_le (by omega), List.take_nil]
theorem cutS_take (z : Str) (r : Nat) : (cutS z none (some (r : Int))).cps.toList = z.cps.toList.take r := by
  unfold cutS
  have hl : z.cps.toList.length = z.length := Array.length_toList
  rw [HT.sIx_none, HT.sIx_nat]
  show ((z.cps.toList.drop 0).take (min r z.length - 0)) = _
  rw [List.drop_zero, Nat.sub_zero]
  by_cases h : r ≤ z.length
  · rw [Nat.min_eq_left h]
  · rw [Nat.min_eq_right (by omega), List.take_of_length_le (by omega), List.take_of_length_le (by omega)]
theorem len_list (z : Str) : z.cps.toList.length = z.length := Array.length_toList
theorem str_ext {a b : Str} (h : a.cps.toList = b.cps.toList) : a = b := Str.ext' (Array.toList_inj.mp h)
theorem cutS_0 (z : Str) : cutS z (some 0) none = z := str_ext ((cutS_drop z 0).trans List.drop_zero)
theorem slD_str (z : Str) (lo hi : Option Int) : slD (.str z) lo hi = ret (.str (cutS z lo hi)) := rfl
theorem cut_le (z : Str) (lo hi : Option Int) : (cutS z lo hi).length ≤ z.length := by
  rw [← len_list, ← len_list]
  unfold cutS
  show ((z.cps.toList.drop _).take _).length ≤ _
  rw [List.length_take, List.length_drop]
  omega
theorem orB0 (m : W Bool) : orB (ret false) m = m := rfl
theorem orB1 (m : W Bool) : orB (ret true) m = ret true := rfl
theorem andB0 (m : W Bool) : andB (ret false) m = ret false := rfl
theorem andB1 (m : W Bool) : andB (ret true) m = m := rfl
/-! ### numbers read -/
def dig (k : Nat) : Bool := decide (48 ≤ k ∧ k ≤ 57)
theorem digs : (Str.ofString "0123456789").cps.toList = [48, 49, 50, 51, 52, 53, 54, 55, 56, 57] := by decide +kernel
theorem dig_in (k : Nat) : decide (k ∈ (Str.ofString "0123456789").cps.toList) = dig k := by
  rw [digs]
  unfold dig
  apply decide_eq_decide.mpr
  simp only [List.mem_cons, List.not_mem_nil, or_false]
  omega
theorem in_dig (k : Nat) : inStr false (chD k) (.str (Str.ofString "0123456789")) = ret (.bl (dig k)) := by
  show PL.ret (D.bl (decide (k ∈ (Str.ofString "0123456789").cps.toList))) = _
  rw [dig_in]
theorem notin_dig (k : Nat) : inStr true (chD k) (.str (Str.ofString "0123456789")) = ret (.bl (!dig k)) := by
  show PL.ret (D.bl (!decide (k ∈ (Str.ofString "0123456789").cps.toList))) = _
  rw [dig_in]
abbrev tMin : Str := Str.ofString "-"
abbrev tZero : Str := Str.ofString "0"
def minB (a : Str) : Bool := cutS a none (some 1) == tMin
def ds (a : Str) : Str := if minB a = true then cutS a (some 1) none else a
def okN (d : Str) : Bool := (decide (1 ≤ (d.length : Int)) && decide ((d.length : Int) ≤ 60)) && d.cps.toList.all dig
def headB (d : Str) : Bool := match d.cps.toList with
  | c :: _ => (⟨#[c]⟩ : Str) == tZero
  | [] => false
def numT (a : Str) : D := match PySem.intText? a with
  | some n => .int n
  | none => .non
def nIn (a : Str) : D := if okN (ds a) = true then (if (headB (ds a) && !(a == tZero)) = true then .non else numT a) else .non
theorem ds_le (a : Str) : (ds a).length ≤ a.length := by
  unfold ds
  split
  · exact cut_le ..
  · exact Nat.le_refl _
theorem ds_law (a : Str) : cutS a (some (if minB a then 1 else 0)) none = ds a := by
  unfold ds
  cases minB a with
  | true => rfl
  | false => exact cutS_0 a
theorem min_shape {a : Str} (h : minB a = true) : a.cps.toList = 45 :: (ds a).cps.toList := by
  have e1 : (cutS a none (some 1)).cps.toList = [45] := by
    rw [eq_of_beq (show (cutS a none (some 1) == tMin) = true from h)]
    decide +kernel
  have e2 := cutS_take a 1
  have e3 : (ds a).cps.toList = a.cps.toList.drop 1 := by
    unfold ds
    rw [if_pos h]
    exact cutS_drop a 1
  rw [e3]
  have e4 : a.cps.toList.take 1 = [45] := e2.symm.trans e1
  cases q : a.cps.toList with
  | nil => rw [q] at e4; cases e4
  | cons c r =>
    rw [q] at e4
    cases e4
    rfl
theorem num_text {a : Str} (h : okN (ds a) = true) : a.length ≤ 640 ∧ ∃ n, PySem.intText? a = some n := by
  unfold okN at h
  simp only [Bool.and_eq_true, decide_eq_true_eq, List.all_eq_true] at h
  obtain ⟨⟨h1, h2⟩, h3⟩ := h
  have hd : NumText.AllDigits (ds a).cps.toList := fun c hc => by
    have := h3 c hc
    simpa [dig] using this
  have hl := len_list (ds a)
  have hn : (ds a).cps.toList ≠ [] := fun z => by rw [z] at hl; simp at hl; omega
  cases hm : minB a with
  | true =>
    have e := min_shape hm
    have hl2 := len_list a
    rw [e, List.length_cons, hl] at hl2
    exact ⟨by omega, _, PySem.intText_neg e hd hn (by omega)⟩
  | false =>
    have e : ds a = a := by unfold ds; rw [hm]; rfl
    rw [e] at hd hn h2
    exact ⟨by omega, _, PySem.intText_digits hd hn (by omega)⟩
theorem int_ret {a : Str} (h : okN (ds a) = true) : intTW (.str a) = ret (numT a) := by
  obtain ⟨h1, n, e⟩ := num_text h
  show (match PySem.intText? a with | some n => grd (a.length ≤ 640) (ret (D.int n)) | none => (stuck : W D)) = _
  unfold numT
  rw [e]
  exact grd_pos h1 _
theorem head_ret {d : Str} (h : okN d = true) : bnd (ixD (.str d) (.int 0)) (fun y1 => eqB y1 (.str tZero)) = ret (headB d) := by
  unfold okN at h
  simp only [Bool.and_eq_true, decide_eq_true_eq] at h
  have hl := len_list d
  cases e : d.cps.toList with
  | nil => rw [e] at hl; simp at hl; omega
  | cons c r =>
    rw [ix_s (k := c) (by rw [e]; exact atI_nat (j := 0) rfl), bnd_ret, eqB_str]
    unfold headB
    rw [e]
theorem number_in_eq (a : Str) : d_number_in (.str a) = ret (nIn a) := by
  unfold d_number_in
  have e0 : bnd (slD (.str a) none (some 1)) (fun s => bnd (eqB s (.str tMin)) fun k => if k = true then slD (.str a) (some 1) none else ret (.str a)) = ret (.str (ds a)) := by
    rw [slD_str, bnd_ret, eqB_str, bnd_ret]
    unfold ds
    show (if minB a = true then _ else _) = _
    cases minB a <;> rfl
  have e1 : orB (bnd (lenI (.str (ds a))) fun n => bnd (thenB (ret (.bl (decide (1 ≤ n)))) (ret (.bl (decide (n ≤ 60))))) fun k1 => bnd (blB k1) fun k2 => ret (!k2)) (bnd (codesD (.str (ds a))) fun ks => bnd (mapP (fun sign => inStr false (chD sign) (.str (Str.ofString "0123456789"))) ks) fun xs => bnd (allD (.lst xs)) fun y => bnd (tru y) fun k4 => ret (!k4)) = ret (!okN (ds a)) := by
    simp only [lenI, codesD, bnd_ret, thenB_bl, blB_bl, orB_ret]
    by_cases h1 : 1 ≤ ((ds a).length : Int)
    · by_cases h2 : ((ds a).length : Int) ≤ 60
      · simp only [h1, h2, decide_true, Bool.and_self, Bool.not_true, Bool.false_eq_true, if_false]
        rw [mapP_ret (g := fun k => .bl (dig k)) (by rw [len_list]; omega) fun k _ => in_dig k, bnd_ret, all_bls]
        rw [orB0]
        simp [okN, h1, h2, bnd_ret, tru_bl]
      · simp only [h1, h2, decide_true, decide_false, Bool.and_false, Bool.not_false]
        rw [orB1]
        simp [okN, h2]
    · simp only [h1, decide_false, Bool.false_and, Bool.not_false]
      rw [orB1]
      simp [okN, h1]
  rw [e0, bnd_ret, e1, bnd_ret]
  unfold nIn
  cases h : okN (ds a) with
  | false => rfl
  | true =>
    rw [Bool.not_true, if_neg (by decide), if_pos rfl, head_ret h, neB_str]
    cases hh : headB (ds a) with
    | false =>
      rw [andB0, bnd_ret, if_neg (by decide), Bool.false_and, if_neg (by decide), int_ret h]
    | true =>
      rw [andB1, bnd_ret, Bool.true_and]
      cases !(a == tZero) with
      | true => rfl
      | false =>
        show intTW (.str a) = _
        rw [int_ret h]
        rfl
theorem l_number_in_eq {a : Str} (hz : a.length ≤ 1000000) : d_l_number_in (.str a) = ret (nIn a) := by
  unfold d_l_number_in
  have e0 : bnd (slD (.str a) none (some 1)) (fun s => bnd (eqB s (.str tMin)) fun k => slD (.str a) (some (if k then 1 else 0)) none) = ret (.str (ds a)) := by
    rw [slD_str, bnd_ret, eqB_str, bnd_ret, slD_str]
    show ret (D.str (cutS a (some (if minB a then 1 else 0)) none)) = _
    rw [ds_law]
  have e1 : orB (eqB (.str (ds a)) (.str (Str.ofString ""))) (orB (bnd (codesD (.str (ds a))) fun ks => bnd (selP (fun sign => bnd (inStr true (chD sign) (.str (Str.ofString "0123456789"))) fun k2 => bnd (blB k2) fun k3 => ret k3) (fun sign => ret (chD sign)) ks) fun xs => neB (.lst xs) (.lst [])) (bnd (lenI (.str (ds a))) fun n => ret (decide (60 < n)))) = ret (!okN (ds a)) := by
    have hd := ds_le a
    have hl := len_list (ds a)
    have hem : ((ds a) == Str.ofString "") = !decide (1 ≤ ((ds a).length : Int)) := by
      cases e : (ds a).cps.toList with
      | nil =>
        rw [e] at hl
        have : ds a = Str.ofString "" := str_ext (by rw [e]; decide +kernel)
        rw [this]
        decide +kernel
      | cons c r =>
        rw [e, List.length_cons] at hl
        rw [decide_eq_true (by omega)]
        apply beq_eq_false_iff_ne.mpr
        intro z
        rw [z] at e
        exact absurd e (by rw [show (Str.ofString "").cps.toList = [] by decide +kernel]; exact fun z => nomatch z)
    have es : selP (fun sign => bnd (inStr true (chD sign) (.str (Str.ofString "0123456789"))) fun k2 => bnd (blB k2) fun k3 => ret k3) (fun sign => ret (chD sign)) (ds a).cps.toList = ret (((ds a).cps.toList.filter fun k => !dig k).map chD) :=
      selP_ret (by omega) (fun k _ => by rw [notin_dig, bnd_ret, blB_bl, bnd_ret]) fun k _ _ => rfl
    have en : (!(((ds a).cps.toList.filter fun k => !dig k).map chD).isEmpty) = !(ds a).cps.toList.all dig := by
      congr 1
      induction (ds a).cps.toList with
      | nil => rfl
      | cons k l ih =>
        rw [List.filter_cons, List.all_cons]
        cases q : dig k with
        | true => simpa [q] using ih
        | false => simp [q]
    rw [eqB_str, hem]
    show orB _ (orB (bnd (ret _) fun ks => _) _) = _
    rw [bnd_ret, es, bnd_ret, neB_nil, en]
    simp only [lenI, bnd_ret, orB_ret, okN]
    congr 1
    rw [show decide (60 < ((ds a).length : Int)) = !decide (((ds a).length : Int) ≤ 60) by rw [← decide_not]; apply decide_eq_decide.mpr; omega]
    cases decide (1 ≤ ((ds a).length : Int)) <;> cases decide (((ds a).length : Int) ≤ 60) <;> cases (ds a).cps.toList.all dig <;> rfl
  rw [e0, bnd_ret, e1, bnd_ret]
  unfold nIn
  cases h : okN (ds a) with
  | false => rfl
  | true =>
    rw [Bool.not_true, if_neg (by decide), if_pos rfl, head_ret h, neB_str]
    cases hh : headB (ds a) with
    | false =>
      rw [andB0, bnd_ret, if_neg (by decide), Bool.false_and, if_neg (by decide), int_ret h]
    | true =>
      rw [andB1, bnd_ret, Bool.true_and]
      cases !(a == tZero) with
      | true => rfl
      | false =>
        show intTW (.str a) = _
        rw [int_ret h]
        rfl
end Q81

namespace Q81
open PySem PySem.Spec L2 PL
/-! ### texts split and parted -/
abbrev tSp : Str := Str.ofString " "
abbrev tEq : Str := Str.ofString "="
abbrev tNl : Str := Str.ofString "\n"
abbrev tCol : Str := Str.ofString ": "
def Big : Nat := 900000
theorem len_sp : (tSp.length == 0) = false := by decide +kernel
theorem len_eq : (tEq.length == 0) = false := by decide +kernel
theorem len_nl : (tNl.length == 0) = false := by decide +kernel
theorem len_col : (tCol.length == 0) = false := by decide +kernel
theorem split_ret {a b : Str} (hb : (b.length == 0) = false) (h : a.length ≤ Big) : splitW (.str a) (.str b) = ret ((Txt.split a b).map D.str) := grd_pos ⟨hb, by rw [sizeLine_eq]; unfold Big at h; omega⟩ _
theorem split_len {a b : Str} (h : a.length ≤ Big) : (Txt.split a b).length ≤ 900002 := by
  have := PyProof.Rows.split_le a b
  unfold Big at h
  omega
theorem iL0 (x : D) (xs : List D) : ixD (.lst (x :: xs)) (.int 0) = PL.ret x := ix_l (atI_nat (j := 0) rfl)
theorem iL1 (a x : D) (xs : List D) : ixD (.lst (a :: x :: xs)) (.int 1) = PL.ret x := ix_l (atI_nat (j := 1) rfl)
theorem split_ne (a b : Str) : Txt.split a b ≠ [] := by
  unfold Txt.split
  split
  · exact fun z => nomatch z
  · split
    · exact fun z => nomatch z
    · unfold Builtin.Str.partsBetween
      intro z
      have := congrArg List.length z
      simp only [List.length_map, List.length_zip, List.length_cons, List.length_append, List.length_nil] at this
      omega
theorem part_ret {a b : Str} (hb : (b.length == 0) = false) : partW (.str a) (.str b) = ret (.tup [.str (Txt.partition a b).1, .str (Txt.partition a b).2.1, .str (Txt.partition a b).2.2]) := grd_pos hb _
theorem unp3_tup (a b c : D) : unp3 (.tup [a, b, c]) = PL.ret (a, b, c) := rfl
/-- one sign that parts -/
theorem no_sign {q : Nat} : ∀ {l acc : List Nat}, q ∉ l → TL.spl [q] 0 acc l = [acc ++ l] ∧ TL.par [q] acc l = none
  | [], acc, _ => ⟨by rw [TL.spl_nil, List.append_nil], rfl⟩
  | c :: r, acc, h => by
    have hp : TL.pre [q] (c :: r) = false := TL.pre_of_head _ _ fun z => h (z ▸ List.mem_cons_self)
    have ih := no_sign (l := r) (acc := acc ++ [c]) fun z => h (List.mem_cons_of_mem _ z)
    rw [TL.spl_miss hp, TL.par_miss hp, ih.1, ih.2, List.append_assoc]
    exact ⟨rfl, rfl⟩
theorem at_sign {q : Nat} : ∀ {u acc r : List Nat}, q ∉ u → TL.spl [q] 0 acc (u ++ q :: r) = (acc ++ u) :: TL.spl [q] 0 [] r ∧ TL.par [q] acc (u ++ q :: r) = some (acc ++ u, r)
  | [], acc, r, _ => by
    have hp : TL.pre [q] (q :: r) = true := TL.pre_self [q] r
    rw [List.nil_append, TL.spl_hit hp, TL.par_hit hp, List.append_nil]
    exact ⟨rfl, rfl⟩
  | c :: u, acc, r, h => by
    have hp : TL.pre [q] (c :: (u ++ q :: r)) = false := TL.pre_of_head _ _ fun z => h (z ▸ List.mem_cons_self)
    have ih := at_sign (u := u) (acc := acc ++ [c]) (r := r) fun z => h (List.mem_cons_of_mem _ z)
    rw [List.cons_append, TL.spl_miss hp, TL.par_miss hp, ih.1, ih.2, List.append_assoc]
    exact ⟨rfl, rfl⟩
theorem eq_ok : TL.tl tEq = [61] := by decide +kernel
theorem eq_ne : TL.tl tEq ≠ [] := by rw [eq_ok]; exact fun z => nomatch z
theorem eq_kind {x : Str} : ¬ Builtin.Str.strKind x < Builtin.Str.strKind tEq := TL.kind_ok (by decide +kernel)
theorem nIn_bad {a : Str} (h : 61 ∈ a.cps.toList) : nIn a = .non := by
  have hd : 61 ∈ (ds a).cps.toList := by
    cases hm : minB a with
    | true =>
      rw [min_shape hm] at h
      exact (List.mem_cons.mp h).elim (fun z => absurd z (by decide)) id
    | false =>
      have e : ds a = a := by unfold ds; rw [hm]; rfl
      rw [e]
      exact h
  have ho : okN (ds a) = false := by
    unfold okN
    have : (ds a).cps.toList.all dig = false := by
      rw [List.all_eq_false]
      exact ⟨61, hd, by decide⟩
    rw [this, Bool.and_false]
  unfold nIn
  rw [ho]
  rfl
theorem nIn_empty : nIn Str.empty = .non := by
  unfold nIn
  rw [show okN (ds Str.empty) = false by decide +kernel]
  rfl
/-- a part of a store's text: a key, a sign, a number -/
theorem part_cases (s : Str) : (∃ k n, Txt.split s tEq = [k, n] ∧ (Txt.partition s tEq).1 = k ∧ (Txt.partition s tEq).2.2 = n ∧ k.length + 1 + n.length = s.length) ∨ ((Txt.split s tEq).length ≠ 2 ∧ nIn (Txt.partition s tEq).2.2 = .non) := by
  have e1 := TL.split_spl s tEq eq_ne eq_kind
  have e2 := TL.partition_par s tEq eq_ne
  rw [eq_ok] at e1 e2
  by_cases h : 61 ∈ TL.tl s
  · obtain ⟨u, r, e, hu⟩ := List.eq_append_cons_of_mem h
    obtain ⟨h1, h2⟩ := at_sign (q := 61) (u := u) (acc := []) (r := r) hu
    rw [← e, List.nil_append] at h1 h2
    rw [h1] at e1
    rw [h2] at e2
    by_cases hr : 61 ∈ r
    · refine .inr ⟨fun z => ?_, ?_⟩
      · obtain ⟨u2, r2, er, hu2⟩ := List.eq_append_cons_of_mem hr
        have h3 := (at_sign (q := 61) (u := u2) (acc := []) (r := r2) hu2).1
        rw [← er] at h3
        rw [h3] at e1
        have e3 := congrArg List.length e1
        rw [List.length_map, z] at e3
        simp only [List.length_cons] at e3
        have : TL.spl [61] 0 [] r2 ≠ [] := by
          cases hq : TL.spl [61] 0 [] r2 with
          | nil =>
            have : ∀ (k : Nat) (acc l : List Nat), TL.spl [61] k acc l ≠ [] := by
              intro k acc l
              induction l generalizing k acc with
              | nil => rw [TL.spl_nil]; exact fun z => nomatch z
              | cons c l ih =>
                cases k with
                | zero =>
                  cases hp : TL.pre [61] (c :: l) with
                  | true => rw [TL.spl_hit hp]; exact fun z => nomatch z
                  | false => rw [TL.spl_miss hp]; exact ih _ _
                | succ k => exact ih k acc
            exact absurd hq (this _ _ _)
          | cons _ _ => exact fun z => nomatch z
        have := List.length_pos_iff.mpr this
        omega
      · rw [e2]
        exact nIn_bad (by rw [show (⟨r.toArray⟩ : Str).cps.toList = r from rfl]; exact hr)
    · refine .inl ⟨⟨u.toArray⟩, ⟨r.toArray⟩, TL.map_tl_inj ?_, ?_, ?_, ?_⟩
      · rw [e1, (no_sign (q := 61) (acc := []) hr).1]
        rfl
      · rw [e2]
      · rw [e2]
      · have := congrArg List.length e
        rw [← TL.len_tl] at this
        rw [this]
        show u.toArray.size + 1 + r.toArray.size = _
        simp only [List.size_toArray, List.length_append, List.length_cons]
        omega
  · obtain ⟨h1, h2⟩ := no_sign (q := 61) (acc := []) h
    rw [h1] at e1
    rw [h2] at e2
    refine .inr ⟨fun z => ?_, by rw [e2]; exact nIn_empty⟩
    have e3 := congrArg List.length e1
    rw [List.length_map, z] at e3
    cases e3
theorem par_len (S : List Nat) : ∀ {l acc a b : List Nat}, S ≠ [] → TL.par S acc l = some (a, b) → a.length + S.length + b.length = acc.length + l.length
  | [], _, _, _, _, h => by cases h
  | c :: r, acc, a, b, hS, h => by
    cases hp : TL.pre S (c :: r) with
    | true =>
      rw [TL.par_hit hp] at h
      cases h
      have hl : S.length ≤ (c :: r).length := by
        have := eq_of_beq (show ((c :: r).take S.length == S) = true from hp)
        have e := congrArg List.length this
        rw [List.length_take] at e
        omega
      rw [List.length_drop]
      omega
    | false =>
      rw [TL.par_miss hp] at h
      have ih := par_len S (l := r) hS h
      simp only [List.length_append, List.length_cons, List.length_nil] at ih ⊢
      omega
theorem col_ne : TL.tl tCol ≠ [] := by decide +kernel
theorem col_len (a : Str) (h : ((Txt.partition a tCol).2.1 == Str.ofString "") = false) : (Txt.partition a tCol).1.length + 2 + (Txt.partition a tCol).2.2.length = a.length := by
  have e2 := TL.partition_par a tCol col_ne
  cases hp : TL.par (TL.tl tCol) [] (TL.tl a) with
  | none =>
    rw [hp] at e2
    rw [e2] at h
    exact absurd (show (Str.empty == Str.ofString "") = false from h) (by decide +kernel)
  | some p =>
    obtain ⟨x, y⟩ := p
    rw [hp] at e2
    have := par_len _ col_ne hp
    rw [e2, TL.len_tl a]
    show x.toArray.size + 2 + y.toArray.size = _
    simp only [List.size_toArray]
    rw [show (TL.tl tCol).length = 2 by decide +kernel, List.length_nil] at this
    omega
/-! ### stores read -/
def pairOf (s : Str) : D := .tup [.str (Txt.partition s tEq).1, nIn (Txt.partition s tEq).2.2]
def prs (a : Str) : List D := (Txt.split a tSp).map pairOf
def stIn (a : Str) : D := if (a == tMin) = true then .tup [] else if ascB numB (Str.ofString "") (prs a) = true then .tup (prs a) else .non
theorem stIn_cases (a : Str) : isNone (stIn a) = true ∧ stIn a = .non ∨ isNone (stIn a) = false ∧ ((stIn a = .tup [] ) ∨ (ascB numB (Str.ofString "") (prs a) = true ∧ stIn a = .tup (prs a))) := by
  unfold stIn
  cases a == tMin with
  | true => exact .inr ⟨rfl, .inl rfl⟩
  | false =>
    cases h : ascB numB (Str.ofString "") (prs a) with
    | true => exact .inr ⟨rfl, .inr ⟨rfl, rfl⟩⟩
    | false => exact .inl ⟨rfl, rfl⟩
theorem are_pairs_turn (pair : D) (last : Str) : (bnd (orB (ret (!(isT .tup pair))) (orB (bnd (lenI pair) fun n => ret (!decide (n = 2))) (orB (bnd (ixD pair (.int 0)) fun y => bnd (cl (d_is_word y)) fun y1 => bnd (tru y1) fun k => ret (!k)) (bnd (ixD pair (.int 0)) fun y2 => bnd (leD y2 (.str last)) fun k1 => blB k1)))) fun kk => if kk = true then
    ret (.out (.bl false))
    else
    bnd (ixD pair (.int 0)) fun last =>
    ret (.go last) : W (Step D D)) = ret (stP pair (.str last)) := by
  cases pair with
  | tup xs =>
    match xs with
    | [] => simp [isT, lenI, orB, bnd_ret, stP, pairK]
    | [a] => simp [isT, lenI, orB, bnd_ret, stP, pairK]
    | [.str a, x] =>
      simp only [isT, lenI, bnd_ret, ix0, is_word_eq, cl_ret, tru_bl, leD_str, blB_bl, orB_ret, Bool.not_true, Bool.false_or, List.length_cons, List.length_nil, stP, pairK]
      cases wordB (.str a) <;> cases ltQ last a <;> rfl
    | [.non, x] | [.bl _, x] | [.int _, x] | [.lst _, x] | [.tup _, x] | [.dic _, x] | [.ins _ _ _, x] => simp [isT, lenI, orB, bnd_ret, ix0, is_word_eq, cl_ret, tru_bl, wordB, stP, pairK]
    | a :: b :: c :: l =>
      have h : ¬ ((l.length : Int) + 1 + 1 + 1 = 2) := by omega
      simp [isT, lenI, orB, bnd_ret, stP, pairK, h]
  | _ => simp [isT, orB, bnd_ret, stP, pairK]
theorem are_pairs_eq (x : D) : d_are_pairs x = ret (.bl (pairsB (fun _ => true) x)) := by
  unfold d_are_pairs
  cases x with
  | tup xs =>
    simp only [isT, Bool.not_true, Bool.false_eq_true, if_false, items_tup, bnd_ret]
    rw [forT_run (st := stP) (I := fun j => ∃ s, j = .str s) (fun x _ j ⟨s, e⟩ => by
      subst e
      refine ⟨are_pairs_turn x s, fun j' h => ?_⟩
      unfold stP at h
      split at h
      · split at h
        · cases h; exact ⟨_, rfl⟩
        · cases h
      · cases h) ⟨_, rfl⟩]
    exact run_pairs xs _
  | _ => simp [isT, pairsB]
theorem is_store_len {xs : List D} (hl : xs.length ≤ 1000000) : d_is_store (.tup xs) = ret (.bl (ascB numB (Str.ofString "") xs)) := by
  unfold d_is_store
  rw [are_pairs_eq, cl_ret]
  cases q : ascB (fun _ => true) (Str.ofString "") xs with
  | false =>
    rw [show pairsB (fun _ => true) (.tup xs) = false from q, andD_f, asc_none _ _ _ q]
  | true =>
    rw [show pairsB (fun _ => true) (.tup xs) = true from q, andD_t]
    simp only [items_tup, bnd_ret]
    rw [mapP_ret (g := fun p => .bl ((fun p => match p with | .tup [_, y] => numB y | _ => false) p)) hl (fun x hx => by
      obtain ⟨a, y, rfl, _, _⟩ := asc_shape q x hx
      rw [ix1, bnd_ret, is_value_eq, cl_ret]), bnd_ret, all_bls]
    rw [asc_all numB _ (fun a y => rfl) xs _ q]
theorem run_store {k : List D → W D} : ∀ (ys : List Str) (acc : List D), acc.length + ys.length ≤ 950000 →
    forT (fun (part : D) (j : List D) => (bnd (bnd (onStr part (partW part (.str (Str.ofString "=")))) fun cut1 => unp3 cut1) fun p => bnd (bnd (cl (d_number_in p.2.2)) fun y => ret [p.1, y]) fun app => roomL j (ret (.go (j ++ [(.tup app)]))) : W (Step (List D) D))) k (ys.map D.str) acc = k (acc ++ ys.map pairOf)
  | [], acc, _ => by rw [List.map_nil, List.map_nil, List.append_nil]; rfl
  | s :: r, acc, hl => by
    rw [List.length_cons] at hl
    show bnd (bnd (bnd (partW (.str s) (.str tEq)) _) _) _ = _
    rw [part_ret len_eq, bnd_ret, unp3_tup, bnd_ret, number_in_eq, cl_ret, bnd_ret, bnd_ret, room_pos (by omega), bnd_ret]
    show forT _ k (r.map D.str) (acc ++ [pairOf s]) = _
    rw [run_store r _ (by rw [List.length_append]; simp only [List.length_cons, List.length_nil]; omega), List.map_cons, List.append_assoc]
    rfl
theorem store_in_eq {a : Str} (h : a.length ≤ Big) : d_store_in (.str a) = ret (stIn a) := by
  unfold d_store_in
  rw [eqB_str, bnd_ret]
  show (if (a == tMin) = true then _ else _) = _
  unfold stIn
  cases hm : a == tMin with
  | true => rfl
  | false =>
    rw [if_neg (by decide), if_neg (by decide)]
    have hs := split_len (b := tSp) h
    show bnd (splitW (.str a) (.str tSp)) _ = _
    rw [split_ret len_sp h, bnd_ret, run_store _ [] (by simp only [List.length_nil]; omega), List.nil_append]
    show bnd (cl (d_is_store (.tup (prs a)))) _ = _
    rw [is_store_len (by unfold prs; rw [List.length_map]; omega), cl_ret, bnd_ret, tru_bl, bnd_ret]
    cases ascB numB (Str.ofString "") (prs a) <;> rfl
theorem pairK_of (s : Str) : pairK (pairOf s) = some ((Txt.partition s tEq).1, nIn (Txt.partition s tEq).2.2) := rfl
theorem lt_empty {w : Str} (h : wordB (.str w) = true) : ltQ (Str.ofString "") w = true := by
  simp only [wordB, Bool.and_eq_true, decide_eq_true_eq] at h
  have hl := len_list w
  unfold ltQ
  rw [show (Str.ofString "").cps.toList = [] by decide +kernel]
  cases e : w.cps.toList with
  | nil => rw [e] at hl; simp at hl; omega
  | cons c r => exact decide_eq_true (List.nil_lt_cons _ _)
def LastK (acc : List D) (last : Str) : Prop := (acc = [] ∧ last = Str.ofString "") ∨ ∃ pre w x, acc = pre ++ [.tup [.str w, x]] ∧ last = w
theorem last_test {acc : List D} {last k : Str} (h : LastK acc last) (hk : wordB (.str k) = true) :
    (andB (neB (.lst acc) (.lst [])) (bnd (ixD (.lst acc) (.int (-1))) fun y5 => bnd (ixD y5 (.int 0)) fun y6 => bnd (PL.ret (D.str k)) fun y7 => bnd (geD y6 y7) fun k5 => blB k5)) = ret (!ltQ last k) := by
  rw [neB_nil]
  rcases h with ⟨rfl, rfl⟩ | ⟨pre, w, x, rfl, rfl⟩
  · rw [lt_empty hk]; rfl
  · rw [show (!(pre ++ [D.tup [.str last, x]]).isEmpty) = true by cases pre <;> rfl, andB1]
    have e : atI (pre ++ [D.tup [.str last, x]]) (-1) = some (.tup [.str last, x]) := by
      unfold atI
      rw [show ixN (pre ++ [D.tup [.str last, x]]).length (-1) = some pre.length by
        unfold ixN
        rw [List.length_append, List.length_singleton, if_neg (by decide), if_pos (by omega)]
        congr 1
        omega]
      simp
    rw [ix_l e, bnd_ret, ix0, bnd_ret, bnd_ret]
    rfl
theorem run_full {k : List D → W D} : ∀ (ys : List Str) (acc : List D) (last : Str), LastK acc last → (∀ s ∈ ys, s.length ≤ Big) → acc.length + ys.length ≤ 950000 →
    forT (fun (part : D) (j : List D) => (bnd (onStr part (splitW part (.str (Str.ofString "=")))) fun parts =>
    bnd (orB (ret (!decide ((parts.length : Int) = 2))) (orB (bnd (ixD (.lst parts) (.int 0)) fun y => bnd (cl (d_l_is_word y)) fun y1 => bnd (tru y1) fun k1 => ret (!k1)) (bnd (ixD (.lst parts) (.int 1)) fun y2 => bnd (cl (d_l_number_in y2)) fun y3 => bnd (cl (d_l_is_number y3)) fun y4 => bnd (tru y4) fun k2 => ret (!k2)))) fun kk => if kk = true then
    ret (.out .non)
    else
    bnd (andB (neB (.lst j) (.lst [])) (bnd (ixD (.lst j) (.int (-1))) fun y5 => bnd (ixD y5 (.int 0)) fun y6 => bnd (ixD (.lst parts) (.int 0)) fun y7 => bnd (geD y6 y7) fun k5 => blB k5)) fun kk => if kk = true then
    ret (.out .non)
    else
    bnd (bnd (ixD (.lst parts) (.int 0)) fun y8 => bnd (ixD (.lst parts) (.int 1)) fun y9 => bnd (cl (d_l_number_in y9)) fun y10 => ret [y8, y10]) fun app => roomL j (
    ret (.go (j ++ [(.tup app)]))) : W (Step (List D) D))) k (ys.map D.str) acc = if ascB numB last (ys.map pairOf) = true then k (acc ++ ys.map pairOf) else ret .non
  | [], acc, last, _, _, _ => by rw [List.map_nil, List.map_nil, List.append_nil]; rfl
  | s :: r, acc, last, hL, hb, hl => by
    rw [List.length_cons] at hl
    have hs := hb s List.mem_cons_self
    show bnd (bnd (splitW (.str s) (.str tEq)) _) _ = _
    rw [split_ret len_eq hs, bnd_ret, List.map_cons, ascB_some (pairK_of s)]
    rcases part_cases s with ⟨k1, n1, e1, e2, e3, _⟩ | ⟨e1, e2⟩
    · rw [e1, e2, e3]
      have hn : n1.length ≤ 1000000 := by
        have : n1 ∈ Txt.split s tEq := by rw [e1]; simp
        have := split_part this
        unfold Big at hs
        omega
      rw [List.map_cons, List.map_cons, List.map_nil, show decide (((([D.str k1, D.str n1]).length : Nat) : Int) = 2) = true from rfl, Bool.not_true, orB0, iL0, bnd_ret, l_is_word_eq, cl_ret, bnd_ret, tru_bl, bnd_ret, iL1, bnd_ret, l_number_in_eq hn, cl_ret, bnd_ret, l_is_number_eq, cl_ret, bnd_ret, tru_bl, bnd_ret, orB_ret, bnd_ret]
      cases hw : wordB (.str k1) with
      | false => rfl
      | true =>
        cases hnb : numB (nIn n1) with
        | false =>
          rw [show (true && ltQ last k1 && false && ascB numB k1 (r.map pairOf)) = false by cases ltQ last k1 <;> rfl]
          rfl
        | true =>
          show bnd (bnd (andB _ _) _) _ = _
          rw [last_test hL hw, bnd_ret]
          cases hq : ltQ last k1 with
          | false => rfl
          | true =>
            show bnd (bnd (bnd (PL.ret (D.str k1)) _) _) _ = _
            rw [bnd_ret, bnd_ret, l_number_in_eq hn, cl_ret, bnd_ret, bnd_ret, room_pos (by omega), bnd_ret]
            have ep : pairOf s = .tup [.str k1, nIn n1] := by unfold pairOf; rw [e2, e3]
            have := run_full (k := k) r (acc ++ [.tup [.str k1, nIn n1]]) k1 (.inr ⟨acc, k1, _, rfl, rfl⟩) (fun t ht => hb t (List.mem_cons_of_mem _ ht)) (by rw [List.length_append]; simp only [List.length_cons, List.length_nil]; omega)
            refine Eq.trans this ?_
            rw [List.append_assoc, ep]
            rfl
    · rw [e2, List.length_map, decide_eq_false (by omega), Bool.not_false, orB1, bnd_ret, if_pos rfl, bnd_ret]
      have : (wordB (.str (Txt.partition s tEq).1) && ltQ last (Txt.partition s tEq).1 && numB .non && ascB numB (Txt.partition s tEq).1 (r.map pairOf)) = false := by
        rw [show numB .non = false from rfl, Bool.and_false, Bool.false_and]
      rw [this]
      rfl
theorem full_in_eq {a : Str} (h : a.length ≤ Big) : d_l_full_in (.str a) = ret (stIn a) := by
  unfold d_l_full_in
  rw [eqB_str, bnd_ret]
  show (if (a == tMin) = true then _ else _) = _
  unfold stIn
  cases hm : a == tMin with
  | true => rfl
  | false =>
    rw [if_neg (by decide), if_neg (by decide)]
    have hs := split_len (b := tSp) h
    show bnd (splitW (.str a) (.str tSp)) _ = _
    rw [split_ret len_sp h, bnd_ret, run_full _ [] _ (.inl ⟨rfl, rfl⟩) (fun s hs => Nat.le_trans (split_part hs) h) (by simp only [List.length_nil]; omega), List.nil_append]
    show (if ascB numB (Str.ofString "") (prs a) = true then _ else _) = _
    cases ascB numB (Str.ofString "") (prs a) <;> rfl
end Q81

namespace Q81
open PySem PySem.Spec L2 PL
abbrev tText : Str := Str.ofString "text"
abbrev eTxt (d : D) : Exc := (Str.ofString "InvalidText", [(Str.ofString "position", d)])
/-! ### errors heard -/
theorem tryW_rse {α γ : Type} (e : Exc) (k : α → W γ) (h : Exc → W γ) : tryW (rse e) k h = h e := rfl
theorem onB_t {α : Type} (m : W α) : onB true m = m := rfl
section
variable {t : ETab} {x y : Str} {fs : List (Str × D)} {ys : List Str} {b : Bool}
theorem isW_is (hk : kn t x = true) (h : isS t x y = b) : isW t y (x, fs) = ret (.bl b) := by
  unfold isW
  rw [hk, h]
  rfl
theorem isTW_is (hk : kn t x = true) (h : ys.any (isS t x) = b) : isTW t ys (x, fs) = ret (.bl b) := by
  unfold isTW
  rw [hk, h]
  rfl
theorem fldW_is {f : Str} {d : D} (hk : ys.contains x = true) (h : fs.lookup f = some d) : fldW ys f (x, fs) = ret d := by
  unfold fldW
  rw [hk]
  show (match fs.lookup f with | some d => ret d | none => stuck) = _
  rw [h]
end
theorem heard_ret (d : D) : d_l_heard (ret d) = ret (.lst [d]) := by
  unfold d_l_heard
  rfl
theorem heard_txt (d : D) : d_l_heard (rse (eTxt d)) = ret (.tup [.str tText, d]) := by
  unfold d_l_heard
  rw [tryW_rse, show cat errT [Str.ofString "RewindError", Str.ofString "Refused", Str.ofString "Full", Str.ofString "TooLong", Str.ofString "TooLarge"] (eTxt d) = true by show (kn errT (Str.ofString "InvalidText") && List.any _ (isS errT (Str.ofString "InvalidText"))) = true; decide +kernel, onB_t, if_neg (by decide)]
  rw [isW_is (t := errT) (x := Str.ofString "InvalidText") (y := Str.ofString "InvalidText") (b := true) (by decide +kernel) (by decide +kernel), bnd_ret, tru_bl, bnd_ret, isW_is (t := errT) (x := Str.ofString "InvalidText") (y := Str.ofString "ValueError") (b := true) (by decide +kernel) (by decide +kernel), bnd_ret, tru_bl, bnd_ret, orB_ret, bnd_ret, if_neg (by decide)]
  rw [isTW_is (t := errT) (x := Str.ofString "InvalidText") (ys := [Str.ofString "InvalidScript", Str.ofString "InvalidState", Str.ofString "InvalidProgram", Str.ofString "InvalidCommand", Str.ofString "InvalidLine"]) (b := false) (by decide +kernel) (by decide +kernel), bnd_ret, tru_bl, bnd_ret, if_neg (by decide), fldW_is (ys := [Str.ofString "InvalidText"]) (by decide +kernel) (by rw [List.lookup_cons_self]), bnd_ret]
/-! ### marks, states read -/
def noM (s : Str) : Bool := ((Txt.partition s tCol).2.1 == Str.ofString "") || (!wordB (.str (Txt.partition s tCol).1) || isNone (stIn (Txt.partition s tCol).2.2))
def mkOf (s : Str) : D := .tup [.str (Txt.partition s tCol).1, stIn (Txt.partition s tCol).2.2]
def markIn (s : Str) : D := if noM s = true then .non else mkOf s
theorem isNone_mark (s : Str) : isNone (markIn s) = noM s := by
  unfold markIn
  cases h : noM s <;> rfl
theorem mark_in_eq {a : Str} (h : a.length ≤ Big) : d_mark_in (.str a) = ret (markIn a) := by
  unfold d_mark_in
  show bnd (bnd (partW (.str a) (.str tCol)) _) _ = _
  have hl := (part_len a tCol).2.2
  rw [part_ret len_col, bnd_ret, unp3_tup, bnd_ret, store_in_eq (Nat.le_trans hl h), cl_ret, bnd_ret, eqB_str, is_word_eq, cl_ret, bnd_ret, tru_bl, bnd_ret, orB_ret, orB_ret, bnd_ret]
  show (if noM a = true then _ else _) = _
  unfold markIn
  cases noM a <;> rfl
def scanM : Nat → List Str → List D → Int ⊕ List D
  | _, [], acc => .inr acc
  | i, s :: r, acc => if noM s = true then .inl (i : Int) else scanM (i + 1) r (acc ++ [mkOf s])
theorem run_marks {γ : Type} {k : List D → W γ} : ∀ (ys : List Str) (i : Nat) (acc : List D), (∀ s ∈ ys, s.length ≤ Big) → acc.length + ys.length ≤ 950000 →
    forT (fun (p1 : Int × D) (j : List D) => bnd (cl (d_mark_in p1.2)) fun mark => if (isNone mark) = true then bnd (ret (.int p1.1)) fun d => rse (Str.ofString "InvalidText", [(Str.ofString "position", d)]) else roomL j (ret (.go (j ++ [mark])))) k (enumZ i (ys.map D.str)) acc
      = match scanM i ys acc with
        | .inl z => rse (eTxt (.int z))
        | .inr xs => k xs
  | [], i, acc, _, _ => rfl
  | s :: r, i, acc, h, hl => by
    rw [List.length_cons] at hl
    show bnd (bnd (cl (d_mark_in (.str s))) _) _ = _
    rw [mark_in_eq (h s List.mem_cons_self), cl_ret, bnd_ret, isNone_mark]
    unfold scanM markIn
    cases hc : noM s with
    | true => rfl
    | false =>
      rw [if_neg (by decide), if_neg (by decide), room_pos (by omega), bnd_ret]
      exact run_marks r (i + 1) _ (fun t ht => h t (List.mem_cons_of_mem _ ht)) (by rw [List.length_append]; simp only [List.length_cons, List.length_nil]; omega)
theorem rngZ_cons (lo : Int) (n : Nat) : rngZ lo (n + 1) = lo :: rngZ (lo + 1) n := by
  unfold rngZ
  rw [List.range_succ_eq_map, List.map_cons, List.map_map]
  congr 1
  · show lo + ((0 : Nat) : Int) = lo
    omega
  · refine List.map_congr_left fun i _ => ?_
    show lo + ((i + 1 : Nat) : Int) = lo + 1 + (i : Int)
    omega
theorem run_rows {k : List D → W D} {rows : List Str} (h : ∀ s ∈ rows, s.length ≤ Big) (hn : rows.length ≤ 950000) : ∀ (r : List Str) (i : Nat) (acc : List D), rows.drop i = r → acc.length ≤ i →
    forT (fun (k : Int) (j : List D) => (bnd (bnd (ixD (.lst (rows.map D.str)) (.int k)) fun y2 => bnd (onStr y2 (partW y2 (.str (Str.ofString ": ")))) fun cut1 => unp3 cut1) fun p =>
    bnd (orB (eqB p.2.1 (.str (Str.ofString ""))) (orB (bnd (cl (d_l_is_word p.1)) fun y3 => bnd (tru y3) fun k2 => ret (!k2)) (bnd (cl (d_l_full_in p.2.2)) fun y4 => ret (isNone y4)))) fun kk => if kk = true then
    ret (.out (.tup [(.str (Str.ofString "text")), (.int k)]))
    else
    bnd (bnd (cl (d_l_full_in p.2.2)) fun y5 => addL [(.tup [p.1, y5])] j) fun pile =>
    ret (.go pile) : W (Step (List D) D))) k (rngZ (i : Int) r.length) acc.reverse
      = match scanM i r acc with
        | .inl z => ret (.tup [.str tText, .int z])
        | .inr xs => k xs.reverse
  | [], i, acc, _, _ => rfl
  | s :: r, i, acc, hd, hl => by
    have hi : rows[i]? = some s := by
      have := congrArg (·[0]?) hd
      simpa using this
    have hm : s ∈ rows := List.mem_of_getElem? hi
    have hlt : i < rows.length := (List.getElem?_eq_some_iff.mp hi).1
    have hs := h s hm
    have hl3 := (part_len s tCol).2.2
    rw [List.length_cons, rngZ_cons]
    have ei : ixD (.lst (rows.map D.str)) (.int (i : Int)) = PL.ret (.str s) := ix_l (atI_nat (by rw [List.getElem?_map, hi]; rfl))
    show bnd (bnd (bnd (ixD (.lst (rows.map D.str)) (.int (i : Int))) _) _) _ = _
    rw [ei, bnd_ret]
    show bnd (bnd (bnd (partW (.str s) (.str tCol)) _) _) _ = _
    rw [part_ret len_col, bnd_ret, unp3_tup, bnd_ret, full_in_eq (Nat.le_trans hl3 hs), cl_ret, bnd_ret, bnd_ret, eqB_str, l_is_word_eq, cl_ret, bnd_ret, tru_bl, bnd_ret, orB_ret, orB_ret, bnd_ret]
    unfold scanM
    show bnd (if noM s = true then _ else _) _ = _
    cases hc : noM s with
    | true => rfl
    | false =>
      rw [if_neg (by decide), if_neg (by decide), addL_ok (by rw [List.length_reverse]; simp only [List.length_cons, List.length_nil]; omega), bnd_ret, bnd_ret]
      have e : [mkOf s] ++ acc.reverse = (acc ++ [mkOf s]).reverse := by rw [List.reverse_append]; rfl
      show forT _ k (rngZ ((i : Int) + 1) r.length) ([mkOf s] ++ acc.reverse) = _
      rw [e]
      exact run_rows h hn r (i + 1) _ (by rw [← List.drop_drop, hd]; rfl) (by rw [List.length_append]; simp only [List.length_cons, List.length_nil]; omega)
/-- what a value writes: where it goes wrong, the state -/
def wri (x : D) : D ⊕ D := match x with
  | .str a => match Txt.split a tNl with
    | [] => .inl .non
    | f :: r => if isNone (stIn f) = true then .inl (.int 0) else match scanM 1 r [] with
      | .inl k => .inl (.int k)
      | .inr ms => .inr (.tup [stIn f, .tup ms.reverse])
  | _ => .inl .non
theorem wri_str {a f : Str} {r : List Str} (h : Txt.split a tNl = f :: r) : wri (.str a) = if isNone (stIn f) = true then .inl (.int 0) else match scanM 1 r [] with
      | .inl k => .inl (.int k)
      | .inr ms => .inr (.tup [stIn f, .tup ms.reverse]) := by
  show (match Txt.split a tNl with
    | [] => .inl .non
    | f :: r => if isNone (stIn f) = true then .inl (.int 0) else match scanM 1 r [] with
      | .inl k => .inl (.int k)
      | .inr ms => .inr (.tup [stIn f, .tup ms.reverse]) : D ⊕ D) = _
  rw [h]
def TOk (x : D) : Prop := ∀ a, x = .str a → a.length ≤ Big
theorem read_eq {x : D} (h : TOk x) : d_read_state x = match wri x with
    | .inl p => rse (eTxt p)
    | .inr y => ret y := by
  unfold d_read_state
  cases x with
  | str a =>
    have ha := h a rfl
    have hn : d_need_text (.str a) = ret .non := by unfold d_need_text; rfl
    rw [hn, cl_ret, bnd_ret]
    show bnd (bnd (splitW (.str a) (.str tNl)) _) _ = _
    rw [split_ret len_nl ha, bnd_ret, bnd_ret]
    have hne := split_ne a tNl
    have hsl := split_len (b := tNl) ha
    have hpt : ∀ s ∈ Txt.split a tNl, s.length ≤ Big := fun s hs => Nat.le_trans (split_part hs) ha
    cases hq : Txt.split a tNl with
    | nil => exact absurd hq hne
    | cons f r =>
      rw [hq] at hsl hpt
      rw [wri_str hq]
      show bnd (ret (D.str f, r.map D.str)) _ = _
      rw [bnd_ret]
      show bnd (cl (d_store_in (.str f))) _ = _
      rw [store_in_eq (hpt f List.mem_cons_self), cl_ret, bnd_ret]
      cases hs : isNone (stIn f) with
      | true => rfl
      | false =>
        rw [if_neg (by decide), if_neg (by decide)]
        show bnd (ret (enumZ 1 (r.map D.str))) _ = _
        rw [bnd_ret, run_marks r 1 [] (fun s hs => hpt s (List.mem_cons_of_mem _ hs)) (by rw [List.length_cons] at hsl; simp only [List.length_nil]; omega)]
        cases scanM 1 r [] <;> rfl
  | _ => unfold d_need_text; rfl
theorem due_eq {x : D} (h : TOk x) : d_l_due x = match wri x with
    | .inl p => ret (.tup [.str tText, p])
    | .inr y => ret (.lst [y]) := by
  unfold d_l_due
  cases x with
  | str a =>
    have ha := h a rfl
    show (if (!(isT .str (.str a))) = true then _ else _) = _
    rw [show isT .str (.str a) = true from rfl, Bool.not_true, if_neg (by decide)]
    show bnd (splitW (.str a) (.str tNl)) _ = _
    rw [split_ret len_nl ha, bnd_ret]
    have hne := split_ne a tNl
    have hsl := split_len (b := tNl) ha
    have hpt : ∀ s ∈ Txt.split a tNl, s.length ≤ Big := fun s hs => Nat.le_trans (split_part hs) ha
    generalize hq : Txt.split a tNl = rows at hne hsl hpt
    cases rows with
    | nil => exact absurd rfl hne
    | cons f r =>
      rw [wri_str hq]
      have e0 : ixD (.lst ((f :: r).map D.str)) (.int 0) = PL.ret (.str f) := iL0 _ _
      rw [e0, bnd_ret, full_in_eq (hpt f List.mem_cons_self), cl_ret, bnd_ret, bnd_ret]
      cases hs : isNone (stIn f) with
      | true => rfl
      | false =>
        rw [if_neg (by decide), if_neg (by decide)]
        have er : rngI2 1 ((((f :: r).map D.str).length : Nat) : Int) = PL.ret (rngZ 1 r.length) := by
          rw [List.length_cons] at hsl
          rw [List.length_map, List.length_cons]
          have e1 : rngI2 1 (((r.length + 1 : Nat)) : Int) = PL.ret (rngZ 1 ((((r.length + 1 : Nat)) : Int) - 1).toNat) := grd_pos (by unfold inR; omega) _
          rw [e1]
          congr 2
          omega
        rw [er, bnd_ret]
        have e7 : (fun j1 : List D => bnd (ixD (.lst ((f :: r).map D.str)) (.int 0)) fun y6 => bnd (cl (d_l_full_in y6)) fun y7 => PL.ret (D.lst [(.tup [y7, (.tup j1)])])) = fun j1 => PL.ret (D.lst [(.tup [stIn f, (.tup j1)])]) := funext fun j1 => by rw [e0, bnd_ret, full_in_eq (hpt f List.mem_cons_self), cl_ret, bnd_ret]
        have := run_rows (k := fun j1 => PL.ret (D.lst [(.tup [stIn f, (.tup j1)])])) hpt (by omega) r 1 [] rfl (Nat.zero_le _)
        refine Eq.trans (Eq.trans (congrArg (fun kk => forT _ kk _ _) (funext fun j1 => by first | rfl | rw [bnd_ret, full_in_eq (hpt f List.mem_cons_self), cl_ret, bnd_ret])) this) ?_
        cases scanM 1 r [] <;> rfl
  | _ => rfl
theorem heard_eq {x : D} (h : TOk x) : d_l_heard (cl (d_read_state x)) = d_l_due x := by
  rw [read_eq h, due_eq h]
  cases wri x with
  | inl p => exact heard_txt p
  | inr xs => exact heard_ret _
end Q81

namespace Q81
open PySem PySem.Spec L2 PL
/-! ### lengths -/
def lens (ss : List Str) : Nat := (ss.map (·.length)).sum
theorem lens_cons (s : Str) (ss : List Str) : lens (s :: ss) = s.length + lens ss := by simp [lens]
theorem lens_app (a b : List Str) : lens (a ++ b) = lens a + lens b := by simp [lens]
theorem lens_le {B : Nat} {ss : List Str} (h : ∀ s ∈ ss, s.length ≤ B) : lens ss ≤ ss.length * B := StrLaws.sumLen_le ss h
theorem spl_sum (S : List Nat) : ∀ (k : Nat) (acc l : List Nat), ((TL.spl S k acc l).map List.length).sum ≤ acc.length + l.length ∧ (TL.spl S k acc l).length ≤ l.length + 1
  | k, acc, [] => by rw [TL.spl_nil]; simp
  | 0, acc, c :: r => by
    cases h : TL.pre S (c :: r) with
    | true =>
      rw [TL.spl_hit h]
      have ih := spl_sum S (S.length - 1) [] r
      simp only [List.map_cons, List.sum_cons, List.length_cons, List.length_nil] at ih ⊢
      omega
    | false =>
      rw [TL.spl_miss h]
      have ih := spl_sum S 0 (acc ++ [c]) r
      simp only [List.length_append, List.length_cons, List.length_nil] at ih ⊢
      omega
  | k + 1, acc, c :: r => by
    have ih := spl_sum S k acc r
    show ((TL.spl S k acc r).map List.length).sum ≤ _ ∧ (TL.spl S k acc r).length ≤ _
    simp only [List.length_cons]
    omega
theorem split_sum {a b : Str} (hy : TL.tl b ≠ []) (hk : b.cps.all (· < 256) = true) : lens (Txt.split a b) ≤ a.length ∧ (Txt.split a b).length ≤ a.length + 1 := by
  have e := TL.split_spl a b hy (TL.kind_ok hk)
  have h := spl_sum (TL.tl b) 0 [] (TL.tl a)
  have e2 : ((TL.spl (TL.tl b) 0 [] (TL.tl a)).map List.length).sum = lens (Txt.split a b) := by
    rw [← e, List.map_map]
    exact congrArg List.sum (List.map_congr_left fun s _ => (TL.len_tl s).symm)
  rw [e2, ← e, List.length_map, ← TL.len_tl, List.length_nil] at h
  omega
theorem lens_take (ss : List Str) (r : Nat) : lens (ss.take r) ≤ lens ss := by
  have e : lens (ss.take r ++ ss.drop r) = lens ss := by rw [List.take_append_drop]
  rw [lens_app] at e
  omega
theorem lens_drop (ss : List Str) (r : Nat) : lens (ss.drop r) ≤ lens ss := by
  have e : lens (ss.take r ++ ss.drop r) = lens ss := by rw [List.take_append_drop]
  rw [lens_app] at e
  omega
theorem txts_map : ∀ ss : List Str, txts (ss.map D.str) = some ss
  | [] => rfl
  | s :: r => by
    show (txts (r.map D.str)).map (s :: ·) = _
    rw [txts_map r]
    all_goals rfl
theorem join_len (sep : Str) (ss : List Str) : (Txt.join sep ss).length ≤ lens ss + ss.length * sep.length := by
  show (Builtin.Str.glued sep ss).length ≤ _
  rw [StrLaws.glued_eq_join]
  exact StrLaws.join_length_le sep ss
theorem join_ret {sep : Str} {ss : List Str} (h : lens ss + ss.length * sep.length ≤ 16000000) : joinD (.str sep) (.lst (ss.map D.str)) = ret (.str (Txt.join sep ss)) := by
  show joinW sep (ss.map D.str) = _
  unfold joinW
  rw [txts_map]
  have := join_len sep ss
  exact grd_pos ⟨by unfold lens at h; omega, by rw [sizeLine_eq]; omega⟩ _
theorem add_str {a b : Str} (h : a.length + b.length ≤ 16000000) : addD (.str a) (.str b) = ret (.str (a ++ b)) := grd_pos (by rw [sizeLine_eq]; omega) _
theorem len_app (a b : Str) : (a ++ b).length = a.length + b.length := Str.length_append a b
/-! ### texts of commands -/
def Tx (B : Nat) (d : D) : Prop := ∃ s : Str, d = .str s ∧ s.length ≤ B
theorem txs_of {B : Nat} : ∀ {ys : List D}, (∀ y ∈ ys, Tx B y) → ∃ ss : List Str, ys = ss.map D.str ∧ ∀ s ∈ ss, s.length ≤ B
  | [], _ => ⟨[], rfl, fun _ h => nomatch h⟩
  | y :: ys, h => by
    obtain ⟨s, rfl, hs⟩ := h y List.mem_cons_self
    obtain ⟨ss, rfl, h2⟩ := txs_of fun z hz => h z (List.mem_cons_of_mem _ hz)
    exact ⟨s :: ss, rfl, fun z hz => (List.mem_cons.mp hz).elim (fun e => e ▸ hs) (h2 z)⟩
theorem join_gen {sep : Str} {ys : List D} {B n : Nat} (h : ∀ y ∈ ys, Tx B y) (hl : ys.length ≤ n) (hb : n * (B + sep.length) ≤ 16000000) : Gen (joinD (.str sep) (.lst ys)) 0 (Tx (n * (B + sep.length))) := by
  obtain ⟨ss, rfl, h2⟩ := txs_of h
  rw [List.length_map] at hl
  have h3 : lens ss + ss.length * sep.length ≤ n * (B + sep.length) := by
    have := lens_le h2
    have := Nat.mul_le_mul_right (B + sep.length) hl
    rw [Nat.mul_add] at this
    omega
  rw [join_ret (Nat.le_trans h3 hb)]
  exact Gen.ret ⟨_, rfl, Nat.le_trans (join_len sep ss) h3⟩
theorem Gen.cl0 {m : W D} {Q : D → Prop} (h : Gen m 0 Q) : Gen (cl m) 0 Q := fun n P PX hn k => h ⟨0, n.μ⟩ _ _ (by show 0 + 0 ≤ drawMax; unfold drawMax; decide) fun a j q _ _ => k a n.n q (Nat.le_refl _) (by omega)
def Tb (n : Nat) (x : D) : Prop := ∀ a, x = .str a → a.length ≤ n
theorem Tb.st {n : Nat} {s : Str} (h : s.length ≤ n) : Tb n (.str s) := fun a e => by cases e; exact h
theorem Tb.of {n B : Nat} {x : D} (h : Tx B x) (hb : B ≤ n) : Tb n x := by
  obtain ⟨s, rfl, hs⟩ := h
  exact Tb.st (Nat.le_trans hs hb)
theorem spl_cnt (S : List Nat) : ∀ (k : Nat) (acc l : List Nat), ((TL.spl S k acc l).map List.length).sum + (TL.spl S k acc l).length ≤ acc.length + l.length + 1
  | k, acc, [] => by rw [TL.spl_nil]; simp
  | 0, acc, c :: r => by
    cases h : TL.pre S (c :: r) with
    | true =>
      rw [TL.spl_hit h]
      have ih := spl_cnt S (S.length - 1) [] r
      simp only [List.map_cons, List.sum_cons, List.length_cons, List.length_nil] at ih ⊢
      omega
    | false =>
      rw [TL.spl_miss h]
      have ih := spl_cnt S 0 (acc ++ [c]) r
      simp only [List.length_append, List.length_cons, List.length_nil] at ih ⊢
      omega
  | k + 1, acc, c :: r => by
    have ih := spl_cnt S k acc r
    show ((TL.spl S k acc r).map List.length).sum + (TL.spl S k acc r).length ≤ _
    simp only [List.length_cons]
    omega
theorem split_cnt {a b : Str} (hy : TL.tl b ≠ []) (hk : b.cps.all (· < 256) = true) : lens (Txt.split a b) + (Txt.split a b).length ≤ a.length + 1 := by
  have e := TL.split_spl a b hy (TL.kind_ok hk)
  have h := spl_cnt (TL.tl b) 0 [] (TL.tl a)
  have e2 : ((TL.spl (TL.tl b) 0 [] (TL.tl a)).map List.length).sum = lens (Txt.split a b) := by
    rw [← e, List.map_map]
    exact congrArg List.sum (List.map_congr_left fun s _ => (TL.len_tl s).symm)
  rw [e2, ← e, List.length_map, ← TL.len_tl, List.length_nil] at h
  omega
theorem word_len8 {w : D} (h : wordB w = true) : ∃ s : Str, w = .str s ∧ s.length ≤ 8 := by
  cases w with
  | str s =>
    simp only [wordB, Bool.and_eq_true, decide_eq_true_eq] at h
    exact ⟨s, rfl, by omega⟩
  | _ => simp [wordB] at h
theorem int_txt {i : Int} (h : numB (.int i) = true) : strOfW (.int i) = ret (.str (toString i)) ∧ (toString i : Str).length ≤ 20 := by
  simp only [numB, Bool.and_eq_true, decide_eq_true_eq] at h
  have e19 : (10 : Nat) ^ 19 = 10000000000000000000 := by decide
  have h1 := int_text_length_le10 (a := i) (k := 19) (by decide) (by rw [e19]; omega)
  have h2 : (Str.ofString (toString i)).length ≤ 20 := by rw [ofString_length]; exact h1
  refine ⟨grd_pos ⟨?_, by rw [sizeLine_eq]; exact Nat.le_trans h2 (by decide)⟩ _, h2⟩
  rcases Nat.eq_zero_or_pos i.natAbs with z | z
  · rw [z]; decide
  · refine (Nat.log2_lt (by omega)).mpr (Nat.lt_of_lt_of_le (show i.natAbs < 2 ^ 64 by omega) (Nat.pow_le_pow_right (by decide) (by decide)))
/-! ### texts of stores and states -/
def mkp (p : Str × Int) : D := .tup [.str p.1, .int p.2]
def txp (p : Str × Int) : Str := p.1 ++ tEq ++ (toString p.2 : Str)
def PsOk (ps : List (Str × Int)) : Prop := ∀ p ∈ ps, wordB (.str p.1) = true ∧ numB (.int p.2) = true
theorem txp_len {p : Str × Int} (h : wordB (.str p.1) = true ∧ numB (.int p.2) = true) : (txp p).length ≤ 29 := by
  obtain ⟨s, e, hs⟩ := word_len8 h.1
  cases e
  have := (int_txt h.2).2
  unfold txp
  rw [len_app, len_app, show tEq.length = 1 by decide +kernel]
  omega
theorem lens_txp {ps : List (Str × Int)} (h : PsOk ps) : lens (ps.map txp) ≤ ps.length * 29 := by
  have := lens_le (B := 29) (ss := ps.map txp) fun s hs => by
    obtain ⟨p, hp, rfl⟩ := List.mem_map.mp hs
    exact txp_len (h p hp)
  rwa [List.length_map] at this
def fullT (ps : List (Str × Int)) : Str := if ps.isEmpty = true then tMin else Txt.join tSp (ps.map txp)
theorem full_text_eq {ps : List (Str × Int)} (h : PsOk ps) (hl : ps.length ≤ 1000) : d_l_full_text (.tup (ps.map mkp)) = ret (.str (fullT ps)) := by
  unfold d_l_full_text
  show bnd (ret (((ps.map mkp).length : Nat) : Int)) _ = _
  rw [bnd_ret, List.length_map]
  unfold fullT
  cases ps with
  | nil => rfl
  | cons p0 r =>
    generalize hps : p0 :: r = ps at h hl
    have hne : ps.isEmpty = false := by rw [← hps]; rfl
    have hpos : 0 < ps.length := by rw [← hps]; exact Nat.zero_lt_succ _
    rw [decide_eq_true (show (0 : Int) < (ps.length : Nat) by omega), if_pos rfl, hne, if_neg (by decide)]
    show bnd (ret (ps.map mkp)) _ = _
    rw [bnd_ret, fewN_pos (by rw [List.length_map]; omega)]
    have e : PL.compP (fun x => bnd (unp2 x) fun p => bnd (bnd (addD p.1 (.str (Str.ofString "="))) fun c => bnd (strOfW p.2) fun s => addD c s) fun y => ret (some y)) (ps.map mkp) = ret (ps.map fun p => D.str (txp p)) := by
      rw [compP_map]
      have key : ∀ p ∈ ps, (fun p => bnd (unp2 (mkp p)) fun p => bnd (bnd (addD p.1 (.str (Str.ofString "="))) fun c => bnd (strOfW p.2) fun s => addD c s) fun y => ret (some y)) p = ret ((fun p => some (D.str (txp p))) p) := fun p hp => by
        obtain ⟨h1, h2⟩ := h p hp
        obtain ⟨s, es, hs⟩ := word_len8 h1
        cases es
        obtain ⟨e2, h3⟩ := int_txt h2
        show bnd (bnd (addD (.str p.1) (.str tEq)) fun c => bnd (strOfW (.int p.2)) fun s => addD c s) _ = _
        rw [add_str (by rw [show tEq.length = 1 by decide +kernel]; omega), bnd_ret, e2, bnd_ret, add_str (by rw [len_app, show tEq.length = 1 by decide +kernel]; omega), bnd_ret]
        rfl
      rw [compP_ret key, List.filterMap_eq_map']
      all_goals rfl
    show bnd (quiet (PL.compP _ _)) _ = _
    rw [e]
    show bnd (ret (ps.map fun p => D.str (txp p))) _ = _
    rw [bnd_ret]
    have e2 : (ps.map fun p => D.str (txp p)) = (ps.map txp).map D.str := by rw [List.map_map]; rfl
    rw [e2, join_ret (sep := tSp)]
    have := lens_txp h
    rw [List.length_map, show tSp.length = 1 by decide +kernel]
    omega
theorem fullT_len {ps : List (Str × Int)} (h : PsOk ps) : (fullT ps).length ≤ 30 * ps.length + 1 := by
  unfold fullT
  cases hq : ps.isEmpty with
  | true => rw [if_pos rfl, show tMin.length = 1 by decide +kernel]; omega
  | false =>
    rw [if_neg (by decide)]
    have h1 := join_len tSp (ps.map txp)
    have h2 := lens_txp h
    rw [List.length_map, show tSp.length = 1 by decide +kernel] at h1
    omega
def StP (n : Nat) (d : D) : Prop := ∃ ps : List (Str × Int), d = .tup (ps.map mkp) ∧ ps.length ≤ n ∧ PsOk ps
theorem stP_of {n : Nat} {j : List (Key × D)} (h : DI numB j) (hl : j.length ≤ n) : StP n (.tup (pairsOf j)) := by
  have ha := asc_shape (pairsOf_asc h)
  have hl2 := pairsOf_len j
  generalize pairsOf j = xs at ha hl2
  have : ∀ xs : List D, (∀ x ∈ xs, ∃ a y, x = .tup [.str a, y] ∧ wordB (.str a) = true ∧ numB y = true) → ∃ ps : List (Str × Int), xs = ps.map mkp ∧ PsOk ps := by
    intro xs
    induction xs with
    | nil => exact fun _ => ⟨[], rfl, fun _ h => nomatch h⟩
    | cons x xs ih =>
      intro hx
      obtain ⟨a, y, rfl, hw, hn⟩ := hx x List.mem_cons_self
      obtain ⟨ps, rfl, hp⟩ := ih fun z hz => hx z (List.mem_cons_of_mem _ hz)
      cases y with
      | int i => exact ⟨(a, i) :: ps, rfl, fun p hq => (List.mem_cons.mp hq).elim (fun e => e ▸ ⟨hw, hn⟩) (hp p)⟩
      | _ => simp [numB] at hn
  obtain ⟨ps, rfl, hp⟩ := this xs ha
  rw [List.length_map] at hl2
  exact ⟨ps, rfl, by omega, hp⟩
def MkP (d : D) : Prop := ∃ w s, d = .tup [.str w, s] ∧ w.length ≤ 8 ∧ StP 6 s
def SttP (d : D) : Prop := ∃ s ms, d = .tup [s, .tup ms] ∧ StP 6 s ∧ ms.length ≤ 60 ∧ ∀ m ∈ ms, MkP m
theorem state_gen {most : Int} (h0 : 0 ≤ most) (h1 : most ≤ 60) : Gen (d_l_state most 6) 60000 SttP := by
  unfold d_l_state
  simp only [bnd_bnd]
  have pg : Gen (d_l_pairs 6 0) 700 (StP 6) := (pairs_gen (v := numB) (by decide) (by decide) (by decide) (by decide) (fun _ h => h) (fun h => absurd h (by decide))).to fun d ⟨j, hj, hl, e⟩ => e ▸ stP_of hj hl
  refine (Gen.dr (c := 50001) (by omega) (by omega) fun r hr0 hr1 => ?_).up (by decide)
  refine (Gen.dr (c := 50000) (by decide) (by decide) fun q _ _ => ?_).up (by decide)
  refine Gen.pickL (c := 50000) (by split <;> decide) (by split <;> simp) fun y hy => ?_
  obtain ⟨i, rfl, hi0, hi1⟩ : ∃ i : Int, y = .int i ∧ 0 ≤ i ∧ i ≤ 60 := by
    simp only [List.mem_cons, List.not_mem_nil, or_false] at hy
    rcases hy with rfl | rfl
    · exact ⟨_, rfl, by omega, by omega⟩
    · exact ⟨_, rfl, by omega, by omega⟩
  simp only [intI, bnd_ret]
  rw [rngI_ret (by omega), bnd_ret]
  refine (Gen.forI (xs := rngZ 0 i.toNat) (i := 0) (c := 710) (d := 700) (n := i.toNat) (I := fun i (j : List D) => j.length ≤ i ∧ ∀ m ∈ j, MkP m) ?n (fun x _ i j hi ⟨hl, hj⟩ => ?b) (fun j ⟨hl, hj⟩ => ?k) ⟨Nat.le_refl _, by simp⟩).up ?c
  case n => rw [rngZ_len]; omega
  case c => rw [rngZ_len]; omega
  case b =>
    refine Gen.bind (c := 10) (d := 700) word_gen fun w ⟨s, ew, hw⟩ => Gen.bind (c := 700) (d := 0) pg fun t ht => ?_
    subst ew
    obtain ⟨s', es, hs⟩ := word_len8 hw
    cases es
    rw [room_pos (by omega)]
    refine Gen.ret ⟨by rw [List.length_append]; show j.length + 1 ≤ i + 1; omega, fun m hm => ?_⟩
    rcases List.mem_append.mp hm with hm | hm
    · exact hj m hm
    · rw [List.mem_singleton.mp hm]
      exact ⟨_, _, rfl, hs, ht⟩
  case k =>
    rw [rngZ_len] at hl
    refine (Gen.bind (c := 700) (d := 0) pg fun t ht => ?_).up (by decide)
    exact Gen.ret ⟨_, _, rfl, ht, by omega, hj⟩
theorem stP_text {d : D} (h : StP 6 d) : Gen (cl (d_l_full_text d)) 0 (Tx 181) := by
  obtain ⟨ps, rfl, hl, hp⟩ := h
  rw [full_text_eq hp (by omega), cl_ret]
  have := fullT_len hp
  exact Gen.ret ⟨_, rfl, by omega⟩
theorem state_text_gen {d : D} (h : SttP d) : Gen (d_l_state_text d) 0 (Tx 12000) := by
  obtain ⟨s, ms, rfl, hs, hl, hm⟩ := h
  unfold d_l_state_text
  rw [ix0, bnd_ret, ix1, bnd_ret]
  refine (Gen.bind (c := 0) (d := 0) (R := fun xs : List D => xs.length = 1 ∧ ∀ y ∈ xs, Tx 191 y) ?_ fun rows ⟨r1, r2⟩ => ?_).up (by decide)
  · refine (Gen.bind (c := 0) (d := 0) (stP_text hs) fun y1 ⟨t, e, ht⟩ => ?_).up (by decide)
    exact Gen.ret ⟨rfl, fun y hy => by rw [List.mem_singleton.mp hy]; exact ⟨t, e, by omega⟩⟩
  rw [lenI_tup, bnd_ret, rngI_ret (by omega), bnd_ret]
  refine (Gen.forI (xs := rngZ 0 ((ms.length : Nat) : Int).toNat) (i := 0) (c := 0) (d := 0) (n := ms.length) (I := fun i (j : List D) => j.length ≤ i + 1 ∧ ∀ y ∈ j, Tx 191 y) ?n (fun x hx i j hi ⟨hl2, hj⟩ => ?b) (fun j ⟨hl2, hj⟩ => ?k) ⟨by omega, r2⟩).up ?c
  case n => rw [rngZ_len]; omega
  case c => rw [rngZ_len]; omega
  case b =>
    obtain ⟨x0, x1⟩ := rngZ_mem hx
    rw [bnd_ret, bnd_ret, lenI_tup, bnd_ret]
    obtain ⟨m, hmm, em⟩ := ixTZ (xs := ms) (i := (((ms.length : Nat) : Int) - 1) - x) (by omega) (by omega)
    rw [em, bnd_ret]
    obtain ⟨w, s2, rfl, hw, hs2⟩ := hm m hmm
    show Gen (bnd (ret ((D.str w, s2) : D × D)) _) _ _
    rw [bnd_ret]
    have lcol : tCol.length = 2 := by decide +kernel
    refine (Gen.bind (c := 0) (d := 0) (R := Tx 191) ?_ fun app happ => ?_).up (by decide)
    · rw [add_str (b := tCol) (by rw [lcol]; omega), bnd_ret]
      refine (Gen.bind (c := 0) (d := 0) (stP_text hs2) fun y6 ⟨t, e, ht⟩ => ?_).up (by decide)
      subst e
      rw [add_str (by rw [len_app, lcol]; omega)]
      exact Gen.ret ⟨_, rfl, by rw [len_app, len_app, lcol]; omega⟩
    · rw [room_pos (by omega)]
      refine Gen.ret ⟨by rw [List.length_append]; simp only [List.length_cons, List.length_nil]; omega, fun y hy => ?_⟩
      rcases List.mem_append.mp hy with hy | hy
      · exact hj y hy
      · rw [List.mem_singleton.mp hy]; exact happ
  case k =>
    rw [rngZ_len] at hl2
    exact (join_gen (sep := tNl) (n := 61) hj (by omega) (by decide +kernel)).to fun d ⟨s, e, hs⟩ => ⟨s, e, Nat.le_trans hs (by decide +kernel)⟩
/-! ### sizes of what is read -/
theorem pair_bulk {s : Str} (hw : wordB (.str (Txt.partition s tEq).1) = true) (hn : numB (nIn (Txt.partition s tEq).2.2) = true) : (py (pairOf s)).bulk ≤ s.length ∧ Sz s.length 1 (pairOf s) := by
  have hl : (Txt.partition s tEq).1.length + 2 ≤ s.length := by
    rcases part_cases s with ⟨k, n, _, e1, e2, e3⟩ | ⟨_, e⟩
    · rw [e1]
      have : n.length ≠ 0 := fun z => by
        rw [e2] at hn
        have : n = Str.empty := str_ext (by
          have := len_list n
          rw [z] at this
          exact List.length_eq_zero_iff.mp this)
        rw [this, nIn_empty] at hn
        cases hn
      omega
    · rw [e] at hn
      cases hn
  have h1 : Sz 8 0 (.str (Txt.partition s tEq).1) := IsW.ok ⟨_, rfl, hw⟩
  have h2 : Sz 0 0 (nIn (Txt.partition s tEq).2.2) := by
    cases q : nIn (Txt.partition s tEq).2.2 with
    | int i => rw [q] at hn; exact IsN.ok ⟨i, rfl, hn⟩
    | _ => rw [q] at hn; simp [numB] at hn
  have h3 : (py (D.str (Txt.partition s tEq).1)).bulk = (Txt.partition s tEq).1.length := by
    show (PyData.str _).bulk = _
    simp only [PyData.bulk]
    rfl
  have hb : bulks [.str (Txt.partition s tEq).1, nIn (Txt.partition s tEq).2.2] ≤ s.length := by
    rw [bulks_cons, bulks_cons, bulks_nil, h3]
    have := h2.2.1
    omega
  have z : Sz s.length 1 (pairOf s) := Sz.tup (.cons h1.pt (.cons h2.pt .nil)) hb
  exact ⟨z.2.1, z⟩
theorem prs_sz : ∀ {ys : List Str} {last : Str}, ascB numB last (ys.map pairOf) = true → Parts 1 (ys.map pairOf) ∧ bulks (ys.map pairOf) ≤ lens ys + ys.length
  | [], _, _ => ⟨.nil, by rw [List.map_nil, bulks_nil]; exact Nat.zero_le _⟩
  | s :: r, last, h => by
    rw [List.map_cons, ascB_some (pairK_of s)] at h
    simp only [Bool.and_eq_true] at h
    obtain ⟨h1, h2⟩ := prs_sz h.2
    obtain ⟨h3, h4⟩ := pair_bulk h.1.1.1 h.1.2
    refine ⟨.cons h4.pt h1, ?_⟩
    rw [List.map_cons, bulks_cons, lens_cons, List.length_cons]
    omega
theorem sp_one : TL.tl tSp ≠ [] ∧ tSp.cps.all (· < 256) = true := ⟨by decide +kernel, by decide +kernel⟩
theorem nl_one : TL.tl tNl ≠ [] ∧ tNl.cps.all (· < 256) = true := ⟨by decide +kernel, by decide +kernel⟩
theorem stIn_sz {a : Str} (h : isNone (stIn a) = false) : Sz (a.length + 1) 2 (stIn a) := by
  rcases stIn_cases a with ⟨h1, _⟩ | ⟨_, e | ⟨ha, e⟩⟩
  · rw [h1] at h; cases h
  · rw [e]
    exact (Sz.tup (B := 0) (k := 0) .nil (by rw [bulks_nil]; exact Nat.le_refl _)).up (Nat.zero_le _) (by decide)
  · rw [e]
    obtain ⟨h1, h2⟩ := prs_sz ha
    exact Sz.tup h1 (Nat.le_trans h2 (split_cnt sp_one.1 sp_one.2))
theorem mk_sz {s : Str} (h : noM s = false) : Sz (s.length + 1) 3 (mkOf s) := by
  unfold noM at h
  simp only [Bool.or_eq_false_iff, Bool.not_eq_false'] at h
  obtain ⟨h1, h2, h3⟩ := h
  have hl := col_len s h1
  have z1 : Sz 8 2 (.str (Txt.partition s tCol).1) := IsW.ok ⟨_, rfl, h2⟩
  have z2 := stIn_sz h3
  have e1 : (py (D.str (Txt.partition s tCol).1)).bulk = (Txt.partition s tCol).1.length := by
    show (PyData.str _).bulk = _
    simp only [PyData.bulk]
    rfl
  refine Sz.tup (.cons z1.pt (.cons z2.pt .nil)) ?_
  rw [bulks_cons, bulks_cons, bulks_nil, e1]
  have := z2.2.1
  omega
theorem scan_sz : ∀ (r : List Str) (i : Nat) (acc : List D), match scanM i r acc with
    | .inl k => 0 ≤ k ∧ k ≤ i + r.length
    | .inr xs => ∃ ys, xs = acc ++ ys ∧ Parts 3 ys ∧ bulks ys ≤ lens r + 2 * r.length
  | [], i, acc => ⟨[], (List.append_nil _).symm, .nil, by rw [bulks_nil]; exact Nat.zero_le _⟩
  | s :: r, i, acc => by
    unfold scanM
    cases hc : noM s with
    | true => exact ⟨Int.natCast_nonneg _, by simp only [List.length_cons]; omega⟩
    | false =>
      rw [if_neg (by decide)]
      have ih := scan_sz r (i + 1) (acc ++ [mkOf s])
      cases q : scanM (i + 1) r (acc ++ [mkOf s]) with
      | inl k =>
        rw [q] at ih
        have ih : 0 ≤ k ∧ k ≤ ((i + 1 : Nat) : Int) + (r.length : Int) := ih
        exact ⟨ih.1, by have := ih.2; simp only [List.length_cons]; omega⟩
      | inr xs =>
        rw [q] at ih
        obtain ⟨ys, e, h1, h2⟩ : ∃ ys, xs = (acc ++ [mkOf s]) ++ ys ∧ Parts 3 ys ∧ bulks ys ≤ lens r + 2 * r.length := ih
        have z := mk_sz hc
        refine ⟨mkOf s :: ys, by rw [e, List.append_assoc]; rfl, .cons z.pt h1, ?_⟩
        rw [bulks_cons, lens_cons, List.length_cons]
        have := z.2.1
        omega
theorem bulks_rev (xs : List D) : bulks xs.reverse = bulks xs := by
  induction xs with
  | nil => rfl
  | cons x xs ih => rw [List.reverse_cons, bulks_app, bulks_cons, bulks_cons, bulks_nil, ih]; omega
theorem due_sz {x : D} (h : Tb 60000 x) : ∃ y : D, d_l_due x = PL.ret y ∧ Sz 150000 8 y := by
  have hB : TOk x := fun a e => Nat.le_trans (h a e) (by decide)
  rw [due_eq hB]
  have hT : Sz 4 0 (.str tText) := Sz.str (by decide +kernel) (by decide +kernel)
  have one : ∀ p : D, Sz 0 0 p → Sz 150000 8 (.tup [.str tText, p]) := fun p hp => by
    refine (Sz.tup (k := 0) (.cons hT.pt (.cons hp.pt .nil)) ?_).up (Nat.le_refl 150000) (by decide)
    rw [bulks_cons, bulks_cons, bulks_nil]
    have := hT.2.1; have := hp.2.1
    omega
  have e61 : (10 : Nat) ^ 61 = 10000000000000000000000000000000000000000000000000000000000000 := by decide
  cases x with
  | str a =>
    have ha := h a rfl
    have hne := split_ne a tNl
    have hc := split_cnt (a := a) nl_one.1 nl_one.2
    cases hq : Txt.split a tNl with
    | nil => exact absurd hq hne
    | cons f r =>
      rw [hq, lens_cons, List.length_cons] at hc
      rw [wri_str hq]
      cases hs : isNone (stIn f) with
      | true => exact ⟨_, rfl, one _ (Sz.int (by rw [e61]; decide))⟩
      | false =>
        rw [if_neg (by decide)]
        have hk := scan_sz r 1 []
        cases q : scanM 1 r [] with
        | inl k =>
          rw [q] at hk
          have hk : 0 ≤ k ∧ k ≤ ((1 : Nat) : Int) + (r.length : Int) := hk
          exact ⟨_, rfl, one (.int k) (Sz.int (by rw [e61]; omega))⟩
        | inr ms =>
          rw [q] at hk
          obtain ⟨ys, e, h1, h2⟩ : ∃ ys, ms = [] ++ ys ∧ Parts 3 ys ∧ bulks ys ≤ lens r + 2 * r.length := hk
          rw [List.nil_append] at e
          subst e
          have z1 := stIn_sz hs
          have z2 : Sz (lens r + 2 * r.length) 4 (.tup ms.reverse) := Sz.tup (fun x hx => h1 x (List.mem_reverse.mp hx)) (by rw [bulks_rev]; exact h2)
          have z3 : Sz 140000 5 (.tup [stIn f, .tup ms.reverse]) := by
            refine Sz.tup (.cons (z1.up (Nat.le_refl _) (by decide)).pt (.cons z2.pt .nil)) ?_
            rw [bulks_cons, bulks_cons, bulks_nil]
            have := z1.2.1; have := z2.2.1
            omega
          refine ⟨.lst [.tup [stIn f, .tup ms.reverse]], rfl, (Sz.lst (k := 5) (B := 150000) (.cons z3.pt .nil) ?_).up (Nat.le_refl _) (by decide)⟩
          rw [bulks_cons, bulks_nil]
          have := z3.2.1
          omega
  | _ => exact ⟨_, rfl, one _ Sz.non⟩
/-! ### texts bent -/
theorem sp_ok : TL.tl tSp ≠ [] ∧ tSp.cps.all (· < 256) = true := ⟨by decide +kernel, by decide +kernel⟩
theorem map_cut_take (ss : List Str) (r : Nat) : cutD (ss.map D.str) none (some (r : Int)) = (ss.take r).map D.str := by rw [cut_take, List.map_take]
theorem map_cut_drop (ss : List Str) (r : Nat) : cutD (ss.map D.str) (some (r : Int)) none = (ss.drop r).map D.str := by rw [cut_drop, List.map_drop]
def Bt (a : Str) (n : Nat) (x : D) : Prop := (∃ s : Str, x = .str s ∧ s.length ≤ 4 * n + 60) ∨ x = .lst [.str (cutS a none (some 2000))] ∨ x = .non ∨ x = .int 0
theorem Bt.tb {a : Str} {n : Nat} {x : D} (h : Bt a n x) : Tb (4 * n + 60) x := fun b e => by
  rcases h with ⟨s, rfl, hs⟩ | rfl | rfl | rfl <;> cases e
  exact hs
theorem bent_gen {a : Str} {n : Nat} (h : a.length ≤ n) (hn : n ≤ 100000) : Gen (d_l_bent_text (.str a)) 4 (Bt a n) := by
  unfold d_l_bent_text
  have la : ∀ lo hi, (cutS a lo hi).length ≤ n := fun lo hi => Nat.le_trans (cut_le ..) h
  have hs := split_sum (a := a) sp_ok.1 sp_ok.2
  have hne := split_ne a tSp
  show Gen (bnd (bnd (ret ((a.length : Nat) : Int)) _) _) _ _
  rw [bnd_ret]
  refine (Gen.dr (c := 3) (by omega) (by omega) fun spot s0 s1 => ?_).up (by decide)
  rw [bnd_bnd]
  refine (Gen.dr (c := 2) (by decide) (by decide) fun r1 r0 r2 => ?_).up (by decide)
  obtain ⟨k, hk, ek⟩ := ixSZ (s := Str.ofString " ;-0a:={}\n9zA") r0 (by rw [show (Str.ofString " ;-0a:={}\n9zA").length = 13 by decide +kernel]; omega)
  rw [ek, bnd_ret]
  show Gen (bnd (splitW (.str a) (.str tSp)) _) _ _
  rw [split_ret len_sp (by unfold Big; omega), bnd_ret]
  generalize Txt.split a tSp = ws at hs hne
  obtain ⟨hs1, hs2⟩ := hs
  have hpos : 0 < ws.length := by cases ws with | nil => exact absurd rfl hne | cons _ _ => exact Nat.zero_lt_succ _
  rw [List.length_map]
  refine (Gen.dr (c := 1) (by omega) (by omega) fun place p0 p1 => ?_).up (by decide)
  obtain ⟨p, rfl⟩ := Int.eq_ofNat_of_zero_le p0
  have ech : (chD k) = .str ⟨#[k]⟩ := rfl
  have lch : (Str.mk #[k]).length = 1 := rfl
  have ht1 := lens_take ws p
  have ht2 := lens_take ws (p + 1)
  have hd1 := lens_drop ws p
  have hd2 := lens_drop ws (p + 1)
  have lt : ∀ q, (ws.take q).length ≤ ws.length := fun q => by rw [List.length_take]; omega
  have ld : ∀ q, (ws.drop q).length ≤ ws.length := fun q => by rw [List.length_drop]; omega
  have lt1 := lt p
  have lt2 := lt (p + 1)
  have ld1 := ld p
  have ld2 := ld (p + 1)
  have lsp : tSp.length = 1 := by decide +kernel
  have lse : (Str.ofString "; ").length = 2 := by decide +kernel
  have lnl : (Str.ofString "\n").length = 1 := by decide +kernel
  simp only [slD_str, bnd_ret, ech, succ_cast, map_cut_take, map_cut_drop]
  have A : ∀ x y : Str, x.length + y.length ≤ 16000000 → addD (.str x) (.str y) = ret (.str (x ++ y)) := fun x y h => add_str h
  have c1 := la none (some spot)
  have c2 := la (some spot) none
  have c3 := la (some (spot + 1)) none
  rw [A _ _ (by rw [lch]; omega), bnd_ret, A _ _ (by rw [len_app, lch]; omega), bnd_ret, bnd_ret, A _ _ (by rw [len_app, lch]; omega), bnd_ret, A _ _ (by omega), bnd_ret, bnd_ret]
  rw [A a _ (by rw [lch]; omega), bnd_ret, addL_ok (by rw [List.length_map, List.length_map]; omega), bnd_ret, ← List.map_append]
  have j1 : lens (ws.take p ++ ws.drop (p + 1)) + (ws.take p ++ ws.drop (p + 1)).length * tSp.length ≤ 4 * n + 4 := by rw [lens_app, List.length_append, lsp]; omega
  have j2 : lens (ws.take (p + 1) ++ ws.drop p) + (ws.take (p + 1) ++ ws.drop p).length * tSp.length ≤ 4 * n + 4 := by rw [lens_app, List.length_append, lsp]; omega
  rw [join_ret (sep := tSp) (by omega), bnd_ret, addL_ok (Nat.le_of_ble_eq_true rfl), bnd_ret]
  rw [addL_ok (by rw [List.length_map, List.length_map]; omega), bnd_ret, ← List.map_append, join_ret (sep := tSp) (by omega), bnd_ret]
  rw [A a (Str.ofString "; ") (by rw [lse]; omega), bnd_ret, A _ a (by rw [len_app, lse]; omega), bnd_ret, A a (Str.ofString "\n") (by rw [lnl]; omega), bnd_ret, A _ a (by rw [len_app, lnl]; omega), bnd_ret, addL_ok (Nat.le_of_ble_eq_true rfl), bnd_ret]
  show Gen (bnd (bnd (grd (a.length ≤ 5592405) (PL.ret (D.str (Txt.upper a)))) _) _) _ _
  rw [grd_pos (by omega), bnd_ret, addL_ok (Nat.le_of_ble_eq_true rfl), bnd_ret, addL_ok (Nat.le_of_ble_eq_true rfl), bnd_ret]
  refine (Gen.dr (c := 0) (by decide) (by decide) fun r3 q0 q1 => ?_).up (by decide)
  refine Gen.pickL0 q0 (by simp; omega) fun y hy => ?_
  have hu := PyProof.Rows.len_upper a
  have g1 := join_len tSp (ws.take p ++ ws.drop (p + 1))
  have g2 := join_len tSp (ws.take (p + 1) ++ ws.drop p)
  simp only [List.cons_append, List.nil_append, List.mem_cons, List.not_mem_nil, or_false] at hy
  have S : ∀ s : Str, s.length ≤ 4 * n + 60 → Bt a n (.str s) := fun s h => .inl ⟨s, rfl, h⟩
  rcases hy with rfl | rfl | rfl | rfl | rfl | rfl | rfl | rfl | rfl | rfl | rfl | rfl | rfl | rfl | rfl | rfl | rfl | rfl | rfl
  · exact S _ (by rw [len_app, len_app, lch]; omega)
  · exact S _ (by rw [len_app, len_app, lch]; omega)
  · exact S _ (by rw [len_app]; omega)
  · exact S _ (by omega)
  · exact S _ (by omega)
  · exact S _ (by rw [len_app, lch]; omega)
  · exact S _ (by omega)
  · exact S _ (by omega)
  · exact S _ (by rw [len_app, len_app, lse]; omega)
  · exact S _ (by rw [len_app, len_app, lnl]; omega)
  · exact S _ (by omega)
  · exact .inr (.inl rfl)
  · exact .inr (.inr (.inl rfl))
  · exact .inr (.inr (.inr rfl))
  · exact S _ (Nat.le_trans (show (Str.ofString "").length ≤ 60 by decide +kernel) (by omega))
  · exact S _ (Nat.le_trans (show (Str.ofString "-").length ≤ 60 by decide +kernel) (by omega))
  · exact S _ (Nat.le_trans (show (Str.ofString "- ").length ≤ 60 by decide +kernel) (by omega))
  · exact S _ (Nat.le_trans (show (Str.ofString "try { - } else { - }").length ≤ 60 by decide +kernel) (by omega))
  · exact S _ (Nat.le_trans (show (Str.ofString "set a 1000000000000000001").length ≤ 60 by decide +kernel) (by omega))
end Q81

namespace Q81
open PySem PySem.Spec L2 PL
/-! ### the last three texts -/
theorem scan_rep {s : Str} (h : noM s = false) : ∀ (n i : Nat) (acc : List D), scanM i (List.replicate n s) acc = .inr (acc ++ List.replicate n (mkOf s))
  | 0, i, acc => by rw [List.replicate_zero, List.replicate_zero, List.append_nil]; rfl
  | n + 1, i, acc => by
    rw [List.replicate_succ]
    unfold scanM
    rw [h, if_neg (by decide), scan_rep h n (i + 1), List.append_assoc, List.replicate_succ]
    rfl
theorem foldl_arr : ∀ (l : List (Array Nat)) (acc : Array Nat), (l.foldl (· ++ ·) acc).toList = acc.toList ++ (l.map Array.toList).flatten
  | [], acc => by simp
  | a :: l, acc => by
    rw [List.foldl_cons, foldl_arr l]
    simp
theorem mul_tl {x : Str} {n : Int} (h : 2 ≤ n) (hx : x.length ≠ 0) : TL.tl (Txt.mul x n) = (List.replicate n.toNat (TL.tl x)).flatten := by
  unfold Txt.mul
  rw [if_neg (by omega), if_neg (by simp; omega)]
  show (List.foldl (· ++ ·) #[] _).toList = _
  rw [foldl_arr, List.map_replicate]
  rfl
def mA : D := .tup [.str (Str.ofString "a"), .tup []]
theorem rep_one (x : D) (n : Nat) : repL [x] (n : Int) = List.replicate n x := by
  unfold repL
  rw [Int.toNat_natCast]
  induction n with
  | zero => rfl
  | succ n ih => rw [List.replicate_succ, List.replicate_succ, List.flatten_cons, ih]; rfl
theorem long_eq : wri (.str (Str.ofString "-" ++ Txt.mul (Str.ofString "\na: -") 300)) = .inr (.tup [.tup [], .tup (List.replicate 300 mA)]) := by
  have e1 : TL.tl (Str.ofString "-" ++ Txt.mul (Str.ofString "\na: -") 300) = 45 :: (List.replicate 300 [10, 97, 58, 32, 45]).flatten := by
    rw [TL.tl_append, mul_tl (by decide) (by decide +kernel), show TL.tl (Str.ofString "-") = [45] by decide +kernel, show TL.tl (Str.ofString "\na: -") = [10, 97, 58, 32, 45] by decide +kernel]
    rfl
  have e2 := TL.split_spl (Str.ofString "-" ++ Txt.mul (Str.ofString "\na: -") 300) tNl nl_one.1 (TL.kind_ok nl_one.2)
  rw [e1, show TL.tl tNl = [10] by decide +kernel, show TL.spl [10] 0 [] (45 :: (List.replicate 300 [10, 97, 58, 32, 45]).flatten) = [45] :: List.replicate 300 [97, 58, 32, 45] by decide +kernel] at e2
  have e3 : Txt.split (Str.ofString "-" ++ Txt.mul (Str.ofString "\na: -") 300) tNl = tMin :: List.replicate 300 (Str.ofString "a: -") := TL.map_tl_inj (by
    rw [e2, List.map_cons, List.map_replicate, show TL.tl tMin = [45] by decide +kernel, show TL.tl (Str.ofString "a: -") = [97, 58, 32, 45] by decide +kernel])
  rw [wri_str e3, show stIn tMin = .tup [] by kernel_rfl, show isNone (.tup []) = false from rfl, if_neg (by decide), scan_rep (by decide +kernel), show mkOf (Str.ofString "a: -") = mA by kernel_rfl]
  show Sum.inr (D.tup [.tup [], .tup ([] ++ List.replicate 300 mA).reverse]) = _
  rw [List.nil_append, List.reverse_replicate]
def pk (n : Nat) : Str × Int := ((⟨#[97 + n / 10]⟩ : Str) ++ (⟨#[97 + n % 10]⟩ : Str), (n : Int))
def ps100 : List (Str × Int) := (List.range 100).map pk
theorem ps_ok : PsOk ps100 := by
  have : (ps100.all fun p => wordB (.str p.1) && numB (.int p.2)) = true := by decide +kernel
  intro p hp
  have := List.all_eq_true.mp this p hp
  rwa [Bool.and_eq_true] at this
def w100 : Str := fullT ps100
theorem w100_tl : TL.tl w100 = TL.joinL [32] ((ps100.map txp).map TL.tl) := by
  show TL.tl (Builtin.Str.glued tSp (ps100.map txp)) = _
  rw [StrLaws.glued_eq_join, TL.tl_join]
  rfl
theorem w100_nl : (10 ∈ TL.tl w100) = False := by
  rw [w100_tl]
  exact eq_false (by decide +kernel)
theorem w100_split : Txt.split w100 tSp = ps100.map txp := by
  have e := TL.split_spl w100 tSp sp_one.1 (TL.kind_ok sp_one.2)
  rw [w100_tl, show TL.tl tSp = [32] by decide +kernel, TL.spl_join (s := 32) (S := []) (by decide +kernel) (by decide +kernel)] at e
  exact TL.map_tl_inj e
theorem w100_prs : prs w100 = ps100.map mkp := by
  unfold prs
  rw [w100_split]
  kernel_rfl
theorem w100_st : stIn w100 = .tup (ps100.map mkp) := by
  have h1 : (w100 == tMin) = false := beq_eq_false_iff_ne.mpr fun z => by
    have := congrArg TL.tl z
    rw [w100_tl] at this
    exact absurd this (by decide +kernel)
  unfold stIn
  rw [h1, if_neg (by decide), w100_prs, show ascB numB (Str.ofString "") (ps100.map mkp) = true by decide +kernel, if_pos rfl]
theorem full_eq : wri (.str w100) = .inr (.tup [.tup (ps100.map mkp), .tup []]) := by
  have e := TL.split_spl w100 tNl nl_one.1 (TL.kind_ok nl_one.2)
  rw [show TL.tl tNl = [10] by decide +kernel, (no_sign (q := 10) (acc := []) (by rw [w100_nl]; exact id)).1] at e
  have e3 : Txt.split w100 tNl = [w100] := TL.map_tl_inj e
  rw [wri_str e3, w100_st]
  rfl
theorem par_col (W : List Nat) : TL.par [58, 32] [] (97 :: 58 :: 32 :: W) = some ([97], W) := by
  have hp : TL.pre [58, 32] (58 :: 32 :: W) = true := TL.pre_self [58, 32] W
  rw [TL.par_miss (TL.pre_of_head _ _ (by decide)), TL.par_hit hp]
  rfl
theorem mark_eq : wri (.str (Str.ofString "-\na: " ++ w100)) = .inr (.tup [.tup [], .tup [.tup [.str (Str.ofString "a"), .tup (ps100.map mkp)]]]) := by
  have e1 : TL.tl (Str.ofString "-\na: " ++ w100) = [45] ++ 10 :: ([97, 58, 32] ++ TL.tl w100) := by
    rw [TL.tl_append, show TL.tl (Str.ofString "-\na: ") = [45, 10, 97, 58, 32] by decide +kernel]
    rfl
  have hn : 10 ∉ [97, 58, 32] ++ TL.tl w100 := fun z => by
    rcases List.mem_append.mp z with z | z
    · exact absurd z (by decide)
    · rw [w100_nl] at z; exact z
  have e := TL.split_spl (Str.ofString "-\na: " ++ w100) tNl nl_one.1 (TL.kind_ok nl_one.2)
  rw [show TL.tl tNl = [10] by decide +kernel, e1, (at_sign (q := 10) (u := [45]) (acc := []) (by decide)).1, (no_sign (q := 10) (acc := []) hn).1] at e
  have e3 : Txt.split (Str.ofString "-\na: " ++ w100) tNl = [tMin, Str.ofString "a: " ++ w100] := TL.map_tl_inj (by
    rw [e, List.map_cons, List.map_cons, List.map_nil, TL.tl_append, show TL.tl tMin = [45] by decide +kernel, show TL.tl (Str.ofString "a: ") = [97, 58, 32] by decide +kernel]
    rfl)
  have ep : Txt.partition (Str.ofString "a: " ++ w100) tCol = (Str.ofString "a", tCol, w100) := by
    have := TL.partition_par (Str.ofString "a: " ++ w100) tCol col_ne
    rw [TL.tl_append, show TL.tl (Str.ofString "a: ") = [97, 58, 32] by decide +kernel, show TL.tl tCol = [58, 32] by decide +kernel] at this
    have h2 : TL.par [58, 32] [] ([97, 58, 32] ++ TL.tl w100) = some ([97], TL.tl w100) := par_col _
    rw [h2] at this
    rw [this]
    show ((⟨#[97]⟩ : Str), tCol, (⟨(TL.tl w100).toArray⟩ : Str)) = _
    rw [TL.mk_tl, show (⟨#[97]⟩ : Str) = Str.ofString "a" by decide +kernel]
  have hm : noM (Str.ofString "a: " ++ w100) = false := by
    unfold noM
    rw [ep]
    show ((tCol == Str.ofString "") || (!wordB (.str (Str.ofString "a")) || isNone (stIn w100))) = false
    rw [w100_st]
    decide +kernel
  rw [wri_str e3, show stIn tMin = .tup [] by kernel_rfl, show isNone (.tup []) = false from rfl, if_neg (by decide)]
  unfold scanM scanM
  rw [hm, if_neg (by decide)]
  unfold mkOf
  rw [ep]
  show Sum.inr (D.tup [.tup [], .tup ([] ++ [D.tup [.str (Str.ofString "a"), stIn w100]]).reverse]) = _
  rw [w100_st]
  rfl
theorem three_eq : wri (.str (Str.ofString "x=1\na: x=1\nb: -")) = .inr (.tup [.tup [.tup [.str (Str.ofString "x"), .int 1]], .tup [.tup [.str (Str.ofString "b"), .tup []], .tup [.str (Str.ofString "a"), .tup [.tup [.str (Str.ofString "x"), .int 1]]]]]) := by
  kernel_rfl
end Q81

namespace Q81
open PySem PySem.Spec L2 PL
/-! ### the law -/
theorem Tb.ok {n : Nat} {x : D} (h : Tb n x) (hn : n ≤ Big) : TOk x := fun a e => Nat.le_trans (h a e) hn
theorem turn_ok {x : D} (h : Tb 60000 x) {m : W (Step Unit (Step Unit D))} (due : D) (e : (bnd (cl (d_l_due x)) fun y7 => reprD y7) = PL.ret due) :
    (bnd (bnd (d_l_heard (cl (d_read_state x))) fun told => bnd (reprD told) fun y10 => neB y10 due) fun kk => if kk = true then ret (.out (.out (.bl false))) else m) = m := by
  obtain ⟨y, ey, hy⟩ := due_sz h
  rw [ey, cl_ret, bnd_ret] at e
  rw [heard_eq (h.ok (by decide)), ey, bnd_ret, e, bnd_ret]
  have e3 := repr_sz hy (by decide) (by decide)
  rw [e3] at e
  have : due = .str (py y).shown := by
    have := congrFun (congrFun (congrFun e n0) (fun x _ => x = due)) (fun _ _ => False)
    exact (this.mpr rfl).symm
  subst this
  rw [neB_str, beq_self_eq_true, bnd_ret]
  rfl
abbrev tA : Str := Str.ofString "a: x=1 y=-5"
theorem strX_gen {x : D} (h : Bt tA 11 x) : Gen (strXW x) 0 (Tx 200) := by
  rcases h with ⟨s, rfl, hs⟩ | rfl | rfl | rfl
  · exact Gen.ret ⟨s, rfl, by omega⟩
  · show Gen (grd _ _) _ _
    refine Gen.grd ⟨by decide +kernel, ?_, by decide +kernel, by decide +kernel⟩ (Gen.ret ⟨_, rfl, by decide +kernel⟩)
    rw [sizeLine_eq]
    exact Nat.le_trans (show _ ≤ 200 by decide +kernel) (by decide)
  · exact Gen.ret ⟨_, rfl, by decide +kernel⟩
  · show Gen (grd _ _) _ _
    refine Gen.grd ⟨by decide +kernel, by decide +kernel⟩ (Gen.ret ⟨_, rfl, by decide +kernel⟩)
theorem full_list : (bnd (rngK 100) fun isV1 => mapP (fun k3 => bnd (fdivI k3 10) fun i1 => bnd (ixD (.str (Str.ofString "abcdefghij")) (.int i1)) fun y15 => bnd (modI k3 10) fun i2 => bnd (ixD (.str (Str.ofString "abcdefghij")) (.int i2)) fun y16 => bnd (addD y15 y16) fun c2 => ret (.tup [c2, (.int k3)])) isV1) = ret (ps100.map mkp) := by
  have hab : ∀ j, j < 10 → (Str.ofString "abcdefghij").cps.toList[j]? = some (97 + j) := by decide +kernel
  have e : ∀ j : Nat, j < 10 → ixD (.str (Str.ofString "abcdefghij")) (.int (j : Int)) = PL.ret (chD (97 + j)) := fun j hj => ix_s (atI_nat (hab j hj))
  rw [rngK_eq, rngI_ret (by decide), bnd_ret]
  have er : rngZ 0 (Int.toNat 100) = (List.range 100).map fun n : Nat => (n : Int) := by
    unfold rngZ
    exact List.map_congr_left fun i _ => by omega
  rw [er]
  have key : ∀ k3 ∈ (List.range 100).map (fun n : Nat => (n : Int)), (bnd (fdivI k3 10) fun i1 => bnd (ixD (.str (Str.ofString "abcdefghij")) (.int i1)) fun y15 => bnd (modI k3 10) fun i2 => bnd (ixD (.str (Str.ofString "abcdefghij")) (.int i2)) fun y16 => bnd (addD y15 y16) fun c2 => ret (.tup [c2, (.int k3)])) = PL.ret ((fun k : Int => mkp (pk k.toNat)) k3) := fun k3 hk => by
    obtain ⟨n, hn, rfl⟩ := List.mem_map.mp hk
    have hn := List.mem_range.mp hn
    have e1 : fdivI (n : Int) 10 = PL.ret (((n / 10 : Nat)) : Int) := grd_pos (by unfold CDiv; omega) _
    have e2 : modI (n : Int) 10 = PL.ret (((n % 10 : Nat)) : Int) := grd_pos (by decide) _
    rw [e1, bnd_ret, e _ (by omega), bnd_ret, e2, bnd_ret, e _ (by omega), bnd_ret]
    show bnd (addD (.str ⟨#[97 + n / 10]⟩) (.str ⟨#[97 + n % 10]⟩)) _ = _
    rw [add_str (a := ⟨#[97 + n / 10]⟩) (b := ⟨#[97 + n % 10]⟩) (show 1 + 1 ≤ 16000000 by decide), bnd_ret]
    show _ = PL.ret (mkp (pk ((n : Int).toNat)))
    rw [Int.toNat_natCast]
    rfl
  rw [mapP_ret (g := fun k : Int => mkp (pk k.toNat)) (by rw [List.length_map, List.length_range]; decide) key, List.map_map]
  unfold ps100
  rw [List.map_map]
  rfl
theorem read_is {x : D} {y : D} (h : TOk x) (e : wri x = .inr y) : cl (d_read_state x) = ret y := by
  rw [read_eq h, e]
  rfl
abbrev c5 : Str := Str.ofString "-" ++ Txt.mul (Str.ofString "\na: -") 300
theorem len_mul : (Txt.mul (Str.ofString "\na: -") 300).length = 1500 := by
  rw [TL.len_tl, mul_tl (by decide) (by decide +kernel)]
  decide +kernel
theorem read_long : cl (d_read_state (.str c5)) = ret (.tup [.tup [], .tup (List.replicate 300 mA)]) := read_is (fun a e => by
  have e := D.str.inj e
  rw [← e, len_app, len_mul]
  decide +kernel) long_eq
theorem len_w : w100.length ≤ 3001 := Nat.le_trans (fullT_len ps_ok) (by decide +kernel)
theorem read_w : cl (d_read_state (.str w100)) = ret (.tup [.tup (ps100.map mkp), .tup []]) := read_is (fun a e => by
  have e := D.str.inj e
  rw [← e]
  exact Nat.le_trans len_w (by decide)) full_eq
theorem read_m : cl (d_read_state (.str (Str.ofString "-\na: " ++ w100))) = ret (.tup [.tup [], .tup [.tup [.str (Str.ofString "a"), .tup (ps100.map mkp)]]]) := read_is (fun a e => by
  have e := D.str.inj e
  have := len_w
  rw [← e, len_app, show (Str.ofString "-\na: ").length = 5 by decide +kernel]
  unfold Big
  omega) mark_eq
theorem read_3 : cl (d_read_state (.str (Str.ofString "x=1\na: x=1\nb: -"))) = ret (.tup [.tup [.tup [.str (Str.ofString "x"), .int 1]], .tup [.tup [.str (Str.ofString "b"), .tup []], .tup [.str (Str.ofString "a"), .tup [.tup [.str (Str.ofString "x"), .int 1]]]]]) := read_is (fun a e => by
  have e := D.str.inj e
  rw [← e]
  decide +kernel) three_eq
theorem ne_w : neB (.tup [.tup (ps100.map mkp), .tup []]) (.tup [.tup (ps100.map mkp), .tup []]) = ret false := neB_same (by decide +kernel)
theorem ne_m : neB (.tup [.tup [], .tup [.tup [.str (Str.ofString "a"), .tup (ps100.map mkp)]]]) (.tup [.tup [], .tup [.tup [.str (Str.ofString "a"), .tup (ps100.map mkp)]]]) = ret false := neB_same (by decide +kernel)
theorem ne_l : neB (.tup [.tup [], .tup (List.replicate 300 mA)]) (.tup [.tup [], .tup (List.replicate 300 mA)]) = ret false := neB_same (by decide +kernel)
theorem mul_ret : repS (Str.ofString "\na: -") 300 = ret (Txt.mul (Str.ofString "\na: -") 300) := grd_pos ⟨⟨by decide +kernel, fun _ _ => by decide +kernel, fun _ _ => by decide +kernel⟩, by rw [len_mul, sizeLine_eq]; decide⟩ _
theorem c5_ret : addS (Str.ofString "-") (Txt.mul (Str.ofString "\na: -") 300) = ret c5 := grd_pos (by rw [len_mul, sizeLine_eq]; decide +kernel) _
theorem rep_ret : repD (.tup [(.tup [(.str (Str.ofString "a")), (.tup [])])]) (.int 300) = ret (.tup (List.replicate 300 mA)) := by
  show grd _ _ = _
  rw [grd_pos ⟨fun z => (nomatch z), by decide, by decide, by decide⟩]
  rw [show (300 : Int) = ((300 : Nat) : Int) from rfl, rep_one]
  rfl
theorem law_gen : Gen d_law 400000 (fun d => d = .bl true) := by
  unfold d_law
  rw [rngK_eq, rngI_ret (by decide), bnd_ret]
  refine (Gen.forS (c := 61000) (d := 0) 5 (fun _ => True) (by rw [rngZ_len]; decide) trivial (fun turn ht j _ => ?_) fun j _ => ?_).up (by decide)
  · obtain ⟨t0, t1⟩ := rngZ_mem ht
    refine (Gen.bind (c := 60000) (d := 900) (R := SttP) ?_ fun now hnow => ?_).up (by decide)
    · refine (Gen.pickL (c := 60000) t0 (by simp only [List.length_cons, List.length_nil]; have : turn < 0 + ((5 : Int).toNat : Int) := t1; omega) fun y hy => ?_).up (Nat.le_refl _)
      simp only [List.mem_cons, List.not_mem_nil, or_false] at hy
      rcases hy with rfl | rfl | rfl | rfl | rfl <;> exact state_gen (by decide) (by decide)
    refine (Gen.bind (c := 0) (d := 900) (Gen.cl0 (state_text_gen hnow)) fun whole ⟨a, ew, ha⟩ => ?_).up (by decide)
    subst ew
    refine (Gen.bind (c := 4) (d := 890) (bent_gen ha (by decide)) fun bent hb0 => ?_).up (by decide)
    have hb := hb0.tb
    refine (Gen.bind (c := 4) (d := 880) (R := fun xs => xs.length = 7 ∧ ∀ x ∈ xs, Tb 60000 x) ?_ fun things ⟨t1, t2⟩ => ?_).up (by decide)
    · refine (Gen.bind (c := 4) (d := 0) (bent_gen ha (by decide)) fun y4 h4 => ?_).up (by decide)
      refine Gen.ret ⟨rfl, fun x hx => ?_⟩
      simp only [List.mem_cons, List.not_mem_nil, or_false] at hx
      have L : ∀ s : Str, s.length ≤ 60 → Tb 60000 (.str s) := fun s h => Tb.st (Nat.le_trans h (by decide))
      rcases hx with rfl | rfl | rfl | rfl | rfl | rfl | rfl
      · exact Tb.st (by omega)
      · exact fun a e => Nat.le_trans (hb a e) (by decide)
      · exact fun a e => Nat.le_trans (h4.tb a e) (by decide)
      · exact L _ (by decide +kernel)
      · exact L _ (by decide +kernel)
      · exact L _ (by decide +kernel)
      · exact L _ (by decide +kernel)
    have L : ∀ s : Str, s.length ≤ 60 → Tb 60000 (.str s) := fun s h => Tb.st (Nat.le_trans h (by decide))
    refine (Gen.bind (c := 0) (d := 870) (R := fun xs => xs.length = 9 ∧ ∀ x ∈ xs, Tb 60000 x) ?_ fun things1 ⟨u1, u2⟩ => ?_).up (by decide)
    · refine Gen.grd (by rw [t1, sizeLine_eq]; exact Nat.le_of_ble_eq_true rfl) (Gen.ret ⟨by rw [List.length_append, t1]; rfl, fun x hx => ?_⟩)
      rcases List.mem_append.mp hx with hx | hx
      · exact t2 x hx
      · simp only [List.mem_cons, List.not_mem_nil, or_false] at hx
        rcases hx with rfl | rfl
        · exact L _ (by decide +kernel)
        · exact L _ (by decide +kernel)
    refine (Gen.bind (c := 4) (d := 860) (bent_gen (a := tA) (n := 11) (by decide +kernel) (by decide)) fun part hpart => ?_).up (by decide)
    refine (Gen.bind (c := 0) (d := 850) (R := fun xs => xs.length = 12 ∧ ∀ x ∈ xs, Tb 60000 x) ?_ fun things2 ⟨v1, v2⟩ => ?_).up (by decide)
    · obtain ⟨s, ms, rfl, hs, _, _⟩ := hnow
      rw [ix0, bnd_ret]
      refine (Gen.bind (c := 0) (d := 0) (stP_text hs) fun y7 ⟨t, e, htl⟩ => ?_).up (by decide)
      subst e
      rw [add_str (by rw [show (Str.ofString "\n").length = 1 by decide +kernel]; omega), bnd_ret]
      refine (Gen.bind (c := 0) (d := 0) (strX_gen hpart) fun y8 ⟨t8, e8, h8⟩ => ?_).up (by decide)
      subst e8
      rw [add_str (by rw [len_app, show (Str.ofString "\n").length = 1 by decide +kernel]; omega), bnd_ret]
      refine Gen.grd (by rw [u1, sizeLine_eq]; exact Nat.le_of_ble_eq_true rfl) (Gen.ret ⟨by rw [List.length_append, u1]; rfl, fun x hx => ?_⟩)
      rcases List.mem_append.mp hx with hx | hx
      · exact u2 x hx
      · simp only [List.mem_cons, List.not_mem_nil, or_false] at hx
        rcases hx with rfl | rfl | rfl
        · exact Tb.st (by rw [len_app, len_app, show (Str.ofString "\n").length = 1 by decide +kernel]; omega)
        · exact L _ (by decide +kernel)
        · exact L _ (by decide +kernel)
    have htst : ∃ b : Bool, andB (ret (isT .str bent)) (bnd (lenI bent) fun n => ret (decide (n < 9000))) = ret b ∧ (b = true → ∃ a : Str, bent = .str a ∧ a.length ≤ 9000) := by
      cases bent with
      | str a =>
        refine ⟨decide ((a.length : Int) < 9000), rfl, fun h => ⟨a, rfl, ?_⟩⟩
        have := of_decide_eq_true h
        omega
      | _ => exact ⟨false, rfl, fun h => nomatch h⟩
    obtain ⟨b, eb, hbb⟩ := htst
    rw [eb, bnd_ret]
    refine (Gen.bind (c := 4) (d := 10) (R := fun xs : List D => xs.length ≤ 20 ∧ ∀ x ∈ xs, Tb 60000 x) ?_ fun j1 ⟨q1, q2⟩ => ?_).up (by decide)
    · refine (Gen.cond (c := 4) (d := 0) (fun h => ?_) fun _ => Gen.ret ⟨by rw [v1]; decide, v2⟩).up (by decide)
      obtain ⟨a2, e2, ha2⟩ := hbb h
      subst e2
      refine (Gen.bind (c := 4) (d := 0) (bent_gen ha2 (by decide)) fun app happ => ?_).up (by decide)
      refine Gen.room (by rw [v1]; decide) (Gen.ret ⟨by rw [List.length_append, v1]; exact Nat.le_of_ble_eq_true rfl, fun x hx => ?_⟩)
      rcases List.mem_append.mp hx with hx | hx
      · exact v2 x hx
      · rw [List.mem_singleton.mp hx]
        exact fun a e => Nat.le_trans (happ.tb a e) (by decide)
    · refine (Gen.forS (c := 0) (d := 0) 20 (fun _ => True) q1 trivial (fun x hx j2 _ => ?_) fun j3 _ => Gen.ret trivial).up (by decide)
      have hx := q2 x hx
      obtain ⟨y, ey, hy⟩ := due_sz hx
      have e3 := repr_sz hy (by decide) (by decide)
      have ed : (bnd (cl (d_l_due x)) fun y7 => reprD y7) = ret (.str (py y).shown) := by rw [ey, cl_ret, bnd_ret, e3]
      have ed0 := ed
      rw [ed, bnd_ret, turn_ok hx _ ed0, turn_ok hx _ ed0]
      exact Gen.ret trivial
  · rw [full_list, bnd_ret, full_text_eq ps_ok (by decide +kernel), cl_ret, bnd_ret, show fullT ps100 = w100 by unfold w100; rfl]
    have hl := len_w
    rw [read_w, bnd_ret, ne_w, orB0]
    rw [add_str (by rw [show (Str.ofString "-\na: ").length = 5 by decide +kernel]; omega), bnd_ret, read_m, bnd_ret, ne_m, bnd_ret, if_neg (by decide)]
    rw [mul_ret, bnd_ret, c5_ret, bnd_ret, read_long, bnd_ret, rep_ret, bnd_ret, ne_l, bnd_ret, if_neg (by decide)]
    rw [read_3, bnd_ret, eqB_same (by decide +kernel), bnd_ret]
    exact Gen.ret rfl
theorem holds : d_law n0 (fun d _ => d = .bl true) (fun _ _ => False) := law_gen n0 _ _ (by decide) fun a k q _ _ => q
end Q81

namespace Q81
open PySem PySem.Spec L2 PL LamX
section
variable {w : World} {K : PySem.W.Frag} {h : Heap} {mg : Str → Option Value} (X : K.In h) (G : h.Ns mainGlobals mg)
include X G
set_option maxHeartbeats 0 in
theorem fin {P : Program} {fa : Addr} {qp : Program} (holds : d_law n0 (fun d _ => d = .bl true) (fun _ _ => False)) (hfa : mg "law" = some (.ref fa)) (TT : TabsOf qp mg h) (hx_law : ((PyProof.Rows.recsOf qp).any fun e => e.name == ("law" : Str)) = true) (z_ValueError : PySem.W.nsIn K mainGlobals "ValueError" = some none)
  (z_abs : PySem.W.nsIn K mainGlobals "abs" = some none)
  (z_all : PySem.W.nsIn K mainGlobals "all" = some none)
  (z_bool : PySem.W.nsIn K mainGlobals "bool" = some none)
  (z_enumerate : PySem.W.nsIn K mainGlobals "enumerate" = some none)
  (z_int : PySem.W.nsIn K mainGlobals "int" = some none)
  (z_isinstance : PySem.W.nsIn K mainGlobals "isinstance" = some none)
  (z_len : PySem.W.nsIn K mainGlobals "len" = some none)
  (z_list : PySem.W.nsIn K mainGlobals "list" = some none)
  (z_range : PySem.W.nsIn K mainGlobals "range" = some none)
  (z_repr : PySem.W.nsIn K mainGlobals "repr" = some none)
  (z_sorted : PySem.W.nsIn K mainGlobals "sorted" = some none)
  (z_str : PySem.W.nsIn K mainGlobals "str" = some none)
  (z_tuple : PySem.W.nsIn K mainGlobals "tuple" = some none)
  {t_DIGITS : Tok} (c_DIGITS : PySem.W.nsIn K mainGlobals "DIGITS" = some (some (.str "0123456789" t_DIGITS)))
  {t_GREATEST_VALUE : Tok} (c_GREATEST_VALUE : PySem.W.nsIn K mainGlobals "GREATEST_VALUE" = some (some (.int 1000000000000000000 t_GREATEST_VALUE)))
  {t_LETTERS : Tok} (c_LETTERS : PySem.W.nsIn K mainGlobals "LETTERS" = some (some (.str "abcdefghijklmnopqrstuvwxyz" t_LETTERS)))
  {t_LONGEST_WORD : Tok} (c_LONGEST_WORD : PySem.W.nsIn K mainGlobals "LONGEST_WORD" = some (some (.int 8 t_LONGEST_WORD)))
  {t_MOST_DIGITS : Tok} (c_MOST_DIGITS : PySem.W.nsIn K mainGlobals "MOST_DIGITS" = some (some (.int 60 t_MOST_DIGITS)))
  {t_NOTHING : Tok} (c_NOTHING : PySem.W.nsIn K mainGlobals "NOTHING" = some (some (.str "-" t_NOTHING)))
  {C_RewindError : Addr} (xa_RewindError : PySem.W.nsIn K mainGlobals "RewindError" = some (some (.ref C_RewindError)))
  {C_InvalidState : Addr} (xa_InvalidState : PySem.W.nsIn K mainGlobals "InvalidState" = some (some (.ref C_InvalidState)))
  {C_InvalidScript : Addr} (xa_InvalidScript : PySem.W.nsIn K mainGlobals "InvalidScript" = some (some (.ref C_InvalidScript)))
  {C_InvalidCommand : Addr} (xa_InvalidCommand : PySem.W.nsIn K mainGlobals "InvalidCommand" = some (some (.ref C_InvalidCommand)))
  {C_InvalidProgram : Addr} (xa_InvalidProgram : PySem.W.nsIn K mainGlobals "InvalidProgram" = some (some (.ref C_InvalidProgram)))
  {C_InvalidText : Addr} (xa_InvalidText : PySem.W.nsIn K mainGlobals "InvalidText" = some (some (.ref C_InvalidText)))
  {C_InvalidLine : Addr} (xa_InvalidLine : PySem.W.nsIn K mainGlobals "InvalidLine" = some (some (.ref C_InvalidLine)))
  {C_Refused : Addr} (xa_Refused : PySem.W.nsIn K mainGlobals "Refused" = some (some (.ref C_Refused)))
  {C_Full : Addr} (xa_Full : PySem.W.nsIn K mainGlobals "Full" = some (some (.ref C_Full)))
  {C_TooLong : Addr} (xa_TooLong : PySem.W.nsIn K mainGlobals "TooLong" = some (some (.ref C_TooLong)))
  {C_TooLarge : Addr} (xa_TooLarge : PySem.W.nsIn K mainGlobals "TooLarge" = some (some (.ref C_TooLarge)))
  {fI_InvalidText : Addr} (xi_InvalidText : PySem.W.findIn K (.ref C_InvalidText) "__init__" = some (some (.ref fI_InvalidText)))
  {xod_InvalidText xan_InvalidText : Option Addr} {xsl_InvalidText : Array (Option Value)} {xoc_InvalidText xkV_InvalidText xdc_InvalidText xpm_InvalidText xcd_InvalidText xct_InvalidText : Value}
  (xl_InvalidText : K.lookup fI_InvalidText = some ⟨xoc_InvalidText, xod_InvalidText, .func (PySem.W.fnOf "__init__" "InvalidText.__init__" (defArgs (clsDef (topS 6) 0)) (defBody (clsDef (topS 6) 0)) (defScope (clsDef (topS 6) 0)) .none xkV_InvalidText xdc_InvalidText xpm_InvalidText xan_InvalidText xcd_InvalidText xct_InvalidText), xsl_InvalidText⟩)
  (xe_InvalidText : PySem.W.codeIn K xcd_InvalidText "InvalidText.__init__" = true)
  (xk_InvalidText : PySem.W.keepIn K (.ref fI_InvalidText) = true)
  (xt_InvalidText : PySem.W.typeIn K (.ref fI_InvalidText) = some (.type "function"))
  (xb_InvalidText : oexChk K C_InvalidText [.type "ValueError", .type "Exception", .type "BaseException", .type "object"] "ValueError.__new__" "position" = true)
  (xch : errChk K errT [(Str.ofString "InvalidText", C_InvalidText)] [(Str.ofString "RewindError", .ref C_RewindError), (Str.ofString "Refused", .ref C_Refused), (Str.ofString "Full", .ref C_Full), (Str.ofString "TooLong", .ref C_TooLong), (Str.ofString "TooLarge", .ref C_TooLarge), (Str.ofString "InvalidScript", .ref C_InvalidScript), (Str.ofString "InvalidState", .ref C_InvalidState), (Str.ofString "InvalidProgram", .ref C_InvalidProgram), (Str.ofString "InvalidCommand", .ref C_InvalidCommand), (Str.ofString "InvalidLine", .ref C_InvalidLine), (Str.ofString "InvalidText", .ref C_InvalidText), (Str.ofString "ValueError", .type "ValueError")] = true)
  (xf_position : fldChk K [(Str.ofString "InvalidText", C_InvalidText)] "position" = true)
  {f_is_integer : Addr} {od_is_integer an_is_integer : Option Addr} {sl_is_integer : Array (Option Value)} {oc_is_integer kV_is_integer dc_is_integer pm_is_integer cd_is_integer ct_is_integer : Value}
  (a_is_integer : PySem.W.nsIn K mainGlobals "is_integer" = some (some (.ref f_is_integer)))
  (l_is_integer : K.lookup f_is_integer = some ⟨oc_is_integer, od_is_integer, .func (PySem.W.fnOf "is_integer" "is_integer" (defArgs s_is_integer) (defBody s_is_integer) (defScope s_is_integer) .none kV_is_integer dc_is_integer pm_is_integer an_is_integer cd_is_integer ct_is_integer), sl_is_integer⟩)
  (e_is_integer : PySem.W.codeIn K cd_is_integer "is_integer" = true)
  (k_is_integer : PySem.W.keepIn K (.ref f_is_integer) = true)
  {f_is_between : Addr} {od_is_between an_is_between : Option Addr} {sl_is_between : Array (Option Value)} {oc_is_between kV_is_between dc_is_between pm_is_between cd_is_between ct_is_between : Value}
  (a_is_between : PySem.W.nsIn K mainGlobals "is_between" = some (some (.ref f_is_between)))
  (l_is_between : K.lookup f_is_between = some ⟨oc_is_between, od_is_between, .func (PySem.W.fnOf "is_between" "is_between" (defArgs s_is_between) (defBody s_is_between) (defScope s_is_between) .none kV_is_between dc_is_between pm_is_between an_is_between cd_is_between ct_is_between), sl_is_between⟩)
  (e_is_between : PySem.W.codeIn K cd_is_between "is_between" = true)
  (k_is_between : PySem.W.keepIn K (.ref f_is_between) = true)
  {f_is_word : Addr} {od_is_word an_is_word : Option Addr} {sl_is_word : Array (Option Value)} {oc_is_word kV_is_word dc_is_word pm_is_word cd_is_word ct_is_word : Value}
  (a_is_word : PySem.W.nsIn K mainGlobals "is_word" = some (some (.ref f_is_word)))
  (l_is_word : K.lookup f_is_word = some ⟨oc_is_word, od_is_word, .func (PySem.W.fnOf "is_word" "is_word" (defArgs s_is_word) (defBody s_is_word) (defScope s_is_word) .none kV_is_word dc_is_word pm_is_word an_is_word cd_is_word ct_is_word), sl_is_word⟩)
  (e_is_word : PySem.W.codeIn K cd_is_word "is_word" = true)
  (k_is_word : PySem.W.keepIn K (.ref f_is_word) = true)
  {f_is_value : Addr} {od_is_value an_is_value : Option Addr} {sl_is_value : Array (Option Value)} {oc_is_value kV_is_value dc_is_value pm_is_value cd_is_value ct_is_value : Value}
  (a_is_value : PySem.W.nsIn K mainGlobals "is_value" = some (some (.ref f_is_value)))
  (l_is_value : K.lookup f_is_value = some ⟨oc_is_value, od_is_value, .func (PySem.W.fnOf "is_value" "is_value" (defArgs s_is_value) (defBody s_is_value) (defScope s_is_value) .none kV_is_value dc_is_value pm_is_value an_is_value cd_is_value ct_is_value), sl_is_value⟩)
  (e_is_value : PySem.W.codeIn K cd_is_value "is_value" = true)
  (k_is_value : PySem.W.keepIn K (.ref f_is_value) = true)
  {f_are_pairs : Addr} {od_are_pairs an_are_pairs : Option Addr} {sl_are_pairs : Array (Option Value)} {oc_are_pairs kV_are_pairs dc_are_pairs pm_are_pairs cd_are_pairs ct_are_pairs : Value}
  (a_are_pairs : PySem.W.nsIn K mainGlobals "are_pairs" = some (some (.ref f_are_pairs)))
  (l_are_pairs : K.lookup f_are_pairs = some ⟨oc_are_pairs, od_are_pairs, .func (PySem.W.fnOf "are_pairs" "are_pairs" (defArgs s_are_pairs) (defBody s_are_pairs) (defScope s_are_pairs) .none kV_are_pairs dc_are_pairs pm_are_pairs an_are_pairs cd_are_pairs ct_are_pairs), sl_are_pairs⟩)
  (e_are_pairs : PySem.W.codeIn K cd_are_pairs "are_pairs" = true)
  (k_are_pairs : PySem.W.keepIn K (.ref f_are_pairs) = true)
  {f_is_store : Addr} {od_is_store an_is_store : Option Addr} {sl_is_store : Array (Option Value)} {oc_is_store kV_is_store dc_is_store pm_is_store cd_is_store ct_is_store : Value}
  (a_is_store : PySem.W.nsIn K mainGlobals "is_store" = some (some (.ref f_is_store)))
  (l_is_store : K.lookup f_is_store = some ⟨oc_is_store, od_is_store, .func (PySem.W.fnOf "is_store" "is_store" (defArgs s_is_store) (defBody s_is_store) (defScope s_is_store) .none kV_is_store dc_is_store pm_is_store an_is_store cd_is_store ct_is_store), sl_is_store⟩)
  (e_is_store : PySem.W.codeIn K cd_is_store "is_store" = true)
  (k_is_store : PySem.W.keepIn K (.ref f_is_store) = true)
  {f_number_in : Addr} {od_number_in an_number_in : Option Addr} {sl_number_in : Array (Option Value)} {oc_number_in kV_number_in dc_number_in pm_number_in cd_number_in ct_number_in : Value}
  (a_number_in : PySem.W.nsIn K mainGlobals "number_in" = some (some (.ref f_number_in)))
  (l_number_in : K.lookup f_number_in = some ⟨oc_number_in, od_number_in, .func (PySem.W.fnOf "number_in" "number_in" (defArgs s_number_in) (defBody s_number_in) (defScope s_number_in) .none kV_number_in dc_number_in pm_number_in an_number_in cd_number_in ct_number_in), sl_number_in⟩)
  (e_number_in : PySem.W.codeIn K cd_number_in "number_in" = true)
  (k_number_in : PySem.W.keepIn K (.ref f_number_in) = true)
  {f_need_text : Addr} {od_need_text an_need_text : Option Addr} {sl_need_text : Array (Option Value)} {oc_need_text kV_need_text dc_need_text pm_need_text cd_need_text ct_need_text : Value}
  (a_need_text : PySem.W.nsIn K mainGlobals "need_text" = some (some (.ref f_need_text)))
  (l_need_text : K.lookup f_need_text = some ⟨oc_need_text, od_need_text, .func (PySem.W.fnOf "need_text" "need_text" (defArgs s_need_text) (defBody s_need_text) (defScope s_need_text) .none kV_need_text dc_need_text pm_need_text an_need_text cd_need_text ct_need_text), sl_need_text⟩)
  (e_need_text : PySem.W.codeIn K cd_need_text "need_text" = true)
  (k_need_text : PySem.W.keepIn K (.ref f_need_text) = true)
  {f_store_in : Addr} {od_store_in an_store_in : Option Addr} {sl_store_in : Array (Option Value)} {oc_store_in kV_store_in dc_store_in pm_store_in cd_store_in ct_store_in : Value}
  (a_store_in : PySem.W.nsIn K mainGlobals "store_in" = some (some (.ref f_store_in)))
  (l_store_in : K.lookup f_store_in = some ⟨oc_store_in, od_store_in, .func (PySem.W.fnOf "store_in" "store_in" (defArgs s_store_in) (defBody s_store_in) (defScope s_store_in) .none kV_store_in dc_store_in pm_store_in an_store_in cd_store_in ct_store_in), sl_store_in⟩)
  (e_store_in : PySem.W.codeIn K cd_store_in "store_in" = true)
  (k_store_in : PySem.W.keepIn K (.ref f_store_in) = true)
  {f_mark_in : Addr} {od_mark_in an_mark_in : Option Addr} {sl_mark_in : Array (Option Value)} {oc_mark_in kV_mark_in dc_mark_in pm_mark_in cd_mark_in ct_mark_in : Value}
  (a_mark_in : PySem.W.nsIn K mainGlobals "mark_in" = some (some (.ref f_mark_in)))
  (l_mark_in : K.lookup f_mark_in = some ⟨oc_mark_in, od_mark_in, .func (PySem.W.fnOf "mark_in" "mark_in" (defArgs s_mark_in) (defBody s_mark_in) (defScope s_mark_in) .none kV_mark_in dc_mark_in pm_mark_in an_mark_in cd_mark_in ct_mark_in), sl_mark_in⟩)
  (e_mark_in : PySem.W.codeIn K cd_mark_in "mark_in" = true)
  (k_mark_in : PySem.W.keepIn K (.ref f_mark_in) = true)
  {f_read_state : Addr} {od_read_state an_read_state : Option Addr} {sl_read_state : Array (Option Value)} {oc_read_state kV_read_state dc_read_state pm_read_state cd_read_state ct_read_state : Value}
  (a_read_state : PySem.W.nsIn K mainGlobals "read_state" = some (some (.ref f_read_state)))
  (l_read_state : K.lookup f_read_state = some ⟨oc_read_state, od_read_state, .func (PySem.W.fnOf "read_state" "read_state" (defArgs s_read_state) (defBody s_read_state) (defScope s_read_state) .none kV_read_state dc_read_state pm_read_state an_read_state cd_read_state ct_read_state), sl_read_state⟩)
  (e_read_state : PySem.W.codeIn K cd_read_state "read_state" = true)
  (k_read_state : PySem.W.keepIn K (.ref f_read_state) = true)
  {f_l_feed : Addr} {od_l_feed an_l_feed : Option Addr} {sl_l_feed : Array (Option Value)} {oc_l_feed kV_l_feed dc_l_feed pm_l_feed cd_l_feed ct_l_feed : Value}
  (a_l_feed : PySem.W.nsIn K mainGlobals "_law_feed" = some (some (.ref f_l_feed)))
  (l_l_feed : K.lookup f_l_feed = some ⟨oc_l_feed, od_l_feed, .func (PySem.W.fnOf "_law_feed" "_law_feed" (defArgs s_l_feed) (defBody s_l_feed) (defScope s_l_feed) .none kV_l_feed dc_l_feed pm_l_feed an_l_feed cd_l_feed ct_l_feed), sl_l_feed⟩)
  (e_l_feed : PySem.W.codeIn K cd_l_feed "_law_feed" = true)
  (k_l_feed : PySem.W.keepIn K (.ref f_l_feed) = true)
  {f_l_take : Addr} {od_l_take an_l_take : Option Addr} {sl_l_take : Array (Option Value)} {oc_l_take kV_l_take dc_l_take pm_l_take cd_l_take ct_l_take : Value}
  (a_l_take : PySem.W.nsIn K mainGlobals "_law_take" = some (some (.ref f_l_take)))
  (l_l_take : K.lookup f_l_take = some ⟨oc_l_take, od_l_take, .func (PySem.W.fnOf "_law_take" "_law_take" (defArgs s_l_take) (defBody s_l_take) (defScope s_l_take) .none kV_l_take dc_l_take pm_l_take an_l_take cd_l_take ct_l_take), sl_l_take⟩)
  (e_l_take : PySem.W.codeIn K cd_l_take "_law_take" = true)
  (k_l_take : PySem.W.keepIn K (.ref f_l_take) = true)
  {f_l_word : Addr} {od_l_word an_l_word : Option Addr} {sl_l_word : Array (Option Value)} {oc_l_word kV_l_word dc_l_word pm_l_word cd_l_word ct_l_word : Value}
  (a_l_word : PySem.W.nsIn K mainGlobals "_law_word" = some (some (.ref f_l_word)))
  (l_l_word : K.lookup f_l_word = some ⟨oc_l_word, od_l_word, .func (PySem.W.fnOf "_law_word" "_law_word" (defArgs s_l_word) (defBody s_l_word) (defScope s_l_word) .none kV_l_word dc_l_word pm_l_word an_l_word cd_l_word ct_l_word), sl_l_word⟩)
  (e_l_word : PySem.W.codeIn K cd_l_word "_law_word" = true)
  (k_l_word : PySem.W.keepIn K (.ref f_l_word) = true)
  {f_l_number : Addr} {od_l_number an_l_number : Option Addr} {sl_l_number : Array (Option Value)} {oc_l_number kV_l_number dc_l_number pm_l_number cd_l_number ct_l_number : Value}
  (a_l_number : PySem.W.nsIn K mainGlobals "_law_number" = some (some (.ref f_l_number)))
  (l_l_number : K.lookup f_l_number = some ⟨oc_l_number, od_l_number, .func (PySem.W.fnOf "_law_number" "_law_number" (defArgs s_l_number) (defBody s_l_number) (defScope s_l_number) .none kV_l_number dc_l_number pm_l_number an_l_number cd_l_number ct_l_number), sl_l_number⟩)
  (e_l_number : PySem.W.codeIn K cd_l_number "_law_number" = true)
  (k_l_number : PySem.W.keepIn K (.ref f_l_number) = true)
  {f_l_pairs : Addr} {od_l_pairs an_l_pairs : Option Addr} {sl_l_pairs : Array (Option Value)} {oc_l_pairs kV_l_pairs dc_l_pairs pm_l_pairs cd_l_pairs ct_l_pairs : Value}
  (a_l_pairs : PySem.W.nsIn K mainGlobals "_law_pairs" = some (some (.ref f_l_pairs)))
  (l_l_pairs : K.lookup f_l_pairs = some ⟨oc_l_pairs, od_l_pairs, .func (PySem.W.fnOf "_law_pairs" "_law_pairs" (defArgs s_l_pairs) (defBody s_l_pairs) (defScope s_l_pairs) .none kV_l_pairs dc_l_pairs pm_l_pairs an_l_pairs cd_l_pairs ct_l_pairs), sl_l_pairs⟩)
  (e_l_pairs : PySem.W.codeIn K cd_l_pairs "_law_pairs" = true)
  (k_l_pairs : PySem.W.keepIn K (.ref f_l_pairs) = true)
  {f_l_state : Addr} {od_l_state an_l_state : Option Addr} {sl_l_state : Array (Option Value)} {oc_l_state kV_l_state dc_l_state pm_l_state cd_l_state ct_l_state : Value}
  (a_l_state : PySem.W.nsIn K mainGlobals "_law_state" = some (some (.ref f_l_state)))
  (l_l_state : K.lookup f_l_state = some ⟨oc_l_state, od_l_state, .func (PySem.W.fnOf "_law_state" "_law_state" (defArgs s_l_state) (defBody s_l_state) (defScope s_l_state) .none kV_l_state dc_l_state pm_l_state an_l_state cd_l_state ct_l_state), sl_l_state⟩)
  (e_l_state : PySem.W.codeIn K cd_l_state "_law_state" = true)
  (k_l_state : PySem.W.keepIn K (.ref f_l_state) = true)
  {f_l_is_word : Addr} {od_l_is_word an_l_is_word : Option Addr} {sl_l_is_word : Array (Option Value)} {oc_l_is_word kV_l_is_word dc_l_is_word pm_l_is_word cd_l_is_word ct_l_is_word : Value}
  (a_l_is_word : PySem.W.nsIn K mainGlobals "_law_is_word" = some (some (.ref f_l_is_word)))
  (l_l_is_word : K.lookup f_l_is_word = some ⟨oc_l_is_word, od_l_is_word, .func (PySem.W.fnOf "_law_is_word" "_law_is_word" (defArgs s_l_is_word) (defBody s_l_is_word) (defScope s_l_is_word) .none kV_l_is_word dc_l_is_word pm_l_is_word an_l_is_word cd_l_is_word ct_l_is_word), sl_l_is_word⟩)
  (e_l_is_word : PySem.W.codeIn K cd_l_is_word "_law_is_word" = true)
  (k_l_is_word : PySem.W.keepIn K (.ref f_l_is_word) = true)
  {f_l_is_number : Addr} {od_l_is_number an_l_is_number : Option Addr} {sl_l_is_number : Array (Option Value)} {oc_l_is_number kV_l_is_number dc_l_is_number pm_l_is_number cd_l_is_number ct_l_is_number : Value}
  (a_l_is_number : PySem.W.nsIn K mainGlobals "_law_is_number" = some (some (.ref f_l_is_number)))
  (l_l_is_number : K.lookup f_l_is_number = some ⟨oc_l_is_number, od_l_is_number, .func (PySem.W.fnOf "_law_is_number" "_law_is_number" (defArgs s_l_is_number) (defBody s_l_is_number) (defScope s_l_is_number) .none kV_l_is_number dc_l_is_number pm_l_is_number an_l_is_number cd_l_is_number ct_l_is_number), sl_l_is_number⟩)
  (e_l_is_number : PySem.W.codeIn K cd_l_is_number "_law_is_number" = true)
  (k_l_is_number : PySem.W.keepIn K (.ref f_l_is_number) = true)
  {f_l_full_text : Addr} {od_l_full_text an_l_full_text : Option Addr} {sl_l_full_text : Array (Option Value)} {oc_l_full_text kV_l_full_text dc_l_full_text pm_l_full_text cd_l_full_text ct_l_full_text : Value}
  (a_l_full_text : PySem.W.nsIn K mainGlobals "_law_full_text" = some (some (.ref f_l_full_text)))
  (l_l_full_text : K.lookup f_l_full_text = some ⟨oc_l_full_text, od_l_full_text, .func (PySem.W.fnOf "_law_full_text" "_law_full_text" (defArgs s_l_full_text) (defBody s_l_full_text) (defScope s_l_full_text) .none kV_l_full_text dc_l_full_text pm_l_full_text an_l_full_text cd_l_full_text ct_l_full_text), sl_l_full_text⟩)
  (e_l_full_text : PySem.W.codeIn K cd_l_full_text "_law_full_text" = true)
  (k_l_full_text : PySem.W.keepIn K (.ref f_l_full_text) = true)
  {f_l_state_text : Addr} {od_l_state_text an_l_state_text : Option Addr} {sl_l_state_text : Array (Option Value)} {oc_l_state_text kV_l_state_text dc_l_state_text pm_l_state_text cd_l_state_text ct_l_state_text : Value}
  (a_l_state_text : PySem.W.nsIn K mainGlobals "_law_state_text" = some (some (.ref f_l_state_text)))
  (l_l_state_text : K.lookup f_l_state_text = some ⟨oc_l_state_text, od_l_state_text, .func (PySem.W.fnOf "_law_state_text" "_law_state_text" (defArgs s_l_state_text) (defBody s_l_state_text) (defScope s_l_state_text) .none kV_l_state_text dc_l_state_text pm_l_state_text an_l_state_text cd_l_state_text ct_l_state_text), sl_l_state_text⟩)
  (e_l_state_text : PySem.W.codeIn K cd_l_state_text "_law_state_text" = true)
  (k_l_state_text : PySem.W.keepIn K (.ref f_l_state_text) = true)
  {f_l_number_in : Addr} {od_l_number_in an_l_number_in : Option Addr} {sl_l_number_in : Array (Option Value)} {oc_l_number_in kV_l_number_in dc_l_number_in pm_l_number_in cd_l_number_in ct_l_number_in : Value}
  (a_l_number_in : PySem.W.nsIn K mainGlobals "_law_number_in" = some (some (.ref f_l_number_in)))
  (l_l_number_in : K.lookup f_l_number_in = some ⟨oc_l_number_in, od_l_number_in, .func (PySem.W.fnOf "_law_number_in" "_law_number_in" (defArgs s_l_number_in) (defBody s_l_number_in) (defScope s_l_number_in) .none kV_l_number_in dc_l_number_in pm_l_number_in an_l_number_in cd_l_number_in ct_l_number_in), sl_l_number_in⟩)
  (e_l_number_in : PySem.W.codeIn K cd_l_number_in "_law_number_in" = true)
  (k_l_number_in : PySem.W.keepIn K (.ref f_l_number_in) = true)
  {f_l_bent_text : Addr} {od_l_bent_text an_l_bent_text : Option Addr} {sl_l_bent_text : Array (Option Value)} {oc_l_bent_text kV_l_bent_text dc_l_bent_text pm_l_bent_text cd_l_bent_text ct_l_bent_text : Value}
  (a_l_bent_text : PySem.W.nsIn K mainGlobals "_law_bent_text" = some (some (.ref f_l_bent_text)))
  (l_l_bent_text : K.lookup f_l_bent_text = some ⟨oc_l_bent_text, od_l_bent_text, .func (PySem.W.fnOf "_law_bent_text" "_law_bent_text" (defArgs s_l_bent_text) (defBody s_l_bent_text) (defScope s_l_bent_text) .none kV_l_bent_text dc_l_bent_text pm_l_bent_text an_l_bent_text cd_l_bent_text ct_l_bent_text), sl_l_bent_text⟩)
  (e_l_bent_text : PySem.W.codeIn K cd_l_bent_text "_law_bent_text" = true)
  (k_l_bent_text : PySem.W.keepIn K (.ref f_l_bent_text) = true)
  {f_l_heard : Addr} {od_l_heard an_l_heard : Option Addr} {sl_l_heard : Array (Option Value)} {oc_l_heard kV_l_heard dc_l_heard pm_l_heard cd_l_heard ct_l_heard : Value}
  (a_l_heard : PySem.W.nsIn K mainGlobals "_law_heard" = some (some (.ref f_l_heard)))
  (l_l_heard : K.lookup f_l_heard = some ⟨oc_l_heard, od_l_heard, .func (PySem.W.fnOf "_law_heard" "_law_heard" (defArgs s_l_heard) (defBody s_l_heard) (defScope s_l_heard) .none kV_l_heard dc_l_heard pm_l_heard an_l_heard cd_l_heard ct_l_heard), sl_l_heard⟩)
  (e_l_heard : PySem.W.codeIn K cd_l_heard "_law_heard" = true)
  (k_l_heard : PySem.W.keepIn K (.ref f_l_heard) = true)
  {f_l_full_in : Addr} {od_l_full_in an_l_full_in : Option Addr} {sl_l_full_in : Array (Option Value)} {oc_l_full_in kV_l_full_in dc_l_full_in pm_l_full_in cd_l_full_in ct_l_full_in : Value}
  (a_l_full_in : PySem.W.nsIn K mainGlobals "_law_full_in" = some (some (.ref f_l_full_in)))
  (l_l_full_in : K.lookup f_l_full_in = some ⟨oc_l_full_in, od_l_full_in, .func (PySem.W.fnOf "_law_full_in" "_law_full_in" (defArgs s_l_full_in) (defBody s_l_full_in) (defScope s_l_full_in) .none kV_l_full_in dc_l_full_in pm_l_full_in an_l_full_in cd_l_full_in ct_l_full_in), sl_l_full_in⟩)
  (e_l_full_in : PySem.W.codeIn K cd_l_full_in "_law_full_in" = true)
  (k_l_full_in : PySem.W.keepIn K (.ref f_l_full_in) = true)
  {f_l_due : Addr} {od_l_due an_l_due : Option Addr} {sl_l_due : Array (Option Value)} {oc_l_due kV_l_due dc_l_due pm_l_due cd_l_due ct_l_due : Value}
  (a_l_due : PySem.W.nsIn K mainGlobals "_law_due" = some (some (.ref f_l_due)))
  (l_l_due : K.lookup f_l_due = some ⟨oc_l_due, od_l_due, .func (PySem.W.fnOf "_law_due" "_law_due" (defArgs s_l_due) (defBody s_l_due) (defScope s_l_due) .none kV_l_due dc_l_due pm_l_due an_l_due cd_l_due ct_l_due), sl_l_due⟩)
  (e_l_due : PySem.W.codeIn K cd_l_due "_law_due" = true)
  (k_l_due : PySem.W.keepIn K (.ref f_l_due) = true)
  {f_law : Addr} {od_law an_law : Option Addr} {sl_law : Array (Option Value)} {oc_law kV_law dc_law pm_law cd_law ct_law : Value}
  (a_law : PySem.W.nsIn K mainGlobals "law" = some (some (.ref f_law)))
  (l_law : K.lookup f_law = some ⟨oc_law, od_law, .func (PySem.W.fnOf "law" "law" (defArgs s_law) (defBody s_law) (defScope s_law) .none kV_law dc_law pm_law an_law cd_law ct_law), sl_law⟩)
  (e_law : PySem.W.codeIn K cd_law "law" = true)
  (k_law : PySem.W.keepIn K (.ref f_law) = true)
  {c_law P_law : Addr} (tc_law : cd_law = .ref c_law)
  {toc_law : Value} {tod_law : Option Addr} {tvs_law : Array Value} {tsl_law : Array (Option Value)} (tl_law : K.lookup c_law = some ⟨toc_law, tod_law, .fields tvs_law, tsl_law⟩)
  (tv_law : tvs_law[11]? = some (.ref P_law))
  (n_law : K.lookup P_law = none) :
  ∃ (fd : FuncData) (cs : List (Addr × Addr)) (T : List (Addr × Str)), (∀ p ∈ cs, h.get? p.2 = some { cls := .none, data := .fields #[] }) ∧ (∀ p ∈ cs, K.lookup p.2 = none) ∧ (∀ p ∈ cs, PySem.W.CodeHd h p.1 p.2) ∧ (∀ q ∈ T, ∃ p ∈ cs, q.1 = p.2) ∧ (∀ (s : Shared) (u : Value), BindsTo s fd ⟨[u], []⟩ [("_law_script", u)]) ∧ ∀ base : Heap, K.In base → base.Ns mainGlobals mg → (∀ p ∈ cs, TabB base mg p.1 p.2) → FnG P w K mg base 10 fa fd ["_law_script"] (spLawT K T) := by
  have e := hfa.symm.trans (PySem.W.mg_of X G a_law)
  cases e
  have ct_law_ : cd_law = .ref c_law ∧ ∃ (o : Obj) (vs : Array Value), h.get? c_law = some o ∧ o.data = .fields vs ∧ vs[11]? = some (.ref P_law) := ⟨tc_law, _, tvs_law, X _ _ tl_law, rfl, tv_law⟩
  have tt_law_ := TT.at hx_law X (PySem.W.mg_of X G a_law) l_law ct_law_
  have T : ∃ T : Facts K mg, T.f_law = fa ∧ T.d_law = PySem.W.fnOf "law" "law" (defArgs s_law) (defBody s_law) (defScope s_law) .none kV_law dc_law pm_law an_law cd_law ct_law ∧ T.cc_law = c_law ∧ T.P_law = P_law := ⟨⟨PySem.W.mg_none_of X G z_ValueError,
    PySem.W.mg_none_of X G z_abs,
    PySem.W.mg_none_of X G z_all,
    PySem.W.mg_none_of X G z_bool,
    PySem.W.mg_none_of X G z_enumerate,
    PySem.W.mg_none_of X G z_int,
    PySem.W.mg_none_of X G z_isinstance,
    PySem.W.mg_none_of X G z_len,
    PySem.W.mg_none_of X G z_list,
    PySem.W.mg_none_of X G z_range,
    PySem.W.mg_none_of X G z_repr,
    PySem.W.mg_none_of X G z_sorted,
    PySem.W.mg_none_of X G z_str,
    PySem.W.mg_none_of X G z_tuple,
    ⟨t_DIGITS, PySem.W.mg_of X G c_DIGITS⟩,
    ⟨t_GREATEST_VALUE, PySem.W.mg_of X G c_GREATEST_VALUE⟩,
    ⟨t_LETTERS, PySem.W.mg_of X G c_LETTERS⟩,
    ⟨t_LONGEST_WORD, PySem.W.mg_of X G c_LONGEST_WORD⟩,
    ⟨t_MOST_DIGITS, PySem.W.mg_of X G c_MOST_DIGITS⟩,
    ⟨t_NOTHING, PySem.W.mg_of X G c_NOTHING⟩,
    C_RewindError, PySem.W.mg_of X G xa_RewindError,
    C_InvalidState, PySem.W.mg_of X G xa_InvalidState,
    C_InvalidScript, PySem.W.mg_of X G xa_InvalidScript,
    C_InvalidCommand, PySem.W.mg_of X G xa_InvalidCommand,
    C_InvalidProgram, PySem.W.mg_of X G xa_InvalidProgram,
    C_InvalidText, PySem.W.mg_of X G xa_InvalidText,
    C_InvalidLine, PySem.W.mg_of X G xa_InvalidLine,
    C_Refused, PySem.W.mg_of X G xa_Refused,
    C_Full, PySem.W.mg_of X G xa_Full,
    C_TooLong, PySem.W.mg_of X G xa_TooLong,
    C_TooLarge, PySem.W.mg_of X G xa_TooLarge,
    ⟨"ValueError", "ValueError.__new__", "ValueError.__init__", [.type "ValueError", .type "Exception", .type "BaseException", .type "object"], C_InvalidText, fI_InvalidText, _, _, (clsDef (topS 6) 0), "self", "position", PySem.F.store_ValueError, PySem.F.excBase_ValueError, ⟨(oexChk_ok xb_InvalidText).1, xi_InvalidText, xt_InvalidText, (fun_mk (st := (clsDef (topS 6) 0)) xl_InvalidText xe_InvalidText xk_InvalidText), ⟨rfl, rfl, rfl, by decide +kernel, rfl, by decide +kernel, by decide +kernel⟩, ⟨_, _, _, _, rfl⟩, ⟨by decide, by decide, by decide, by decide⟩, ⟨by decide +kernel, by decide +kernel⟩, (oexChk_ok xb_InvalidText).2, (fun_mk (st := (clsDef (topS 6) 0)) xl_InvalidText xe_InvalidText xk_InvalidText).binds (ps := ["self", "position"]) fun _ _ _ _ _ _ us hl => match us, hl with | [_, _], _ => rfl⟩, PySem.W.mg_of X G xa_InvalidText⟩,
    errI_of2 (as := [(Str.ofString "InvalidText", C_InvalidText)]) (ns := [Str.ofString "InvalidText"]) (ap_cons (PySem.W.mg_of X G xa_InvalidText) (ap_nil)) rfl (by decide +kernel) xch,
    fldOk_of (as := [(Str.ofString "InvalidText", C_InvalidText)]) (ap_cons (PySem.W.mg_of X G xa_InvalidText) (ap_nil)) xf_position,
    f_is_integer, _, (fun_mk (st := s_is_integer) l_is_integer e_is_integer k_is_integer), PySem.W.mg_of X G a_is_integer, ((fun_mk (st := s_is_integer) l_is_integer e_is_integer k_is_integer)).binds (ps := ["value"]) fun _ _ _ _ _ _ us hl => match us, hl with | [_], _ => rfl,
    f_is_between, _, (fun_mk (st := s_is_between) l_is_between e_is_between k_is_between), PySem.W.mg_of X G a_is_between, ((fun_mk (st := s_is_between) l_is_between e_is_between k_is_between)).binds (ps := ["value", "least", "most"]) fun _ _ _ _ _ _ us hl => match us, hl with | [_, _, _], _ => rfl,
    f_is_word, _, (fun_mk (st := s_is_word) l_is_word e_is_word k_is_word), PySem.W.mg_of X G a_is_word, ((fun_mk (st := s_is_word) l_is_word e_is_word k_is_word)).binds (ps := ["value"]) fun _ _ _ _ _ _ us hl => match us, hl with | [_], _ => rfl,
    f_is_value, _, (fun_mk (st := s_is_value) l_is_value e_is_value k_is_value), PySem.W.mg_of X G a_is_value, ((fun_mk (st := s_is_value) l_is_value e_is_value k_is_value)).binds (ps := ["value"]) fun _ _ _ _ _ _ us hl => match us, hl with | [_], _ => rfl,
    f_are_pairs, _, (fun_mk (st := s_are_pairs) l_are_pairs e_are_pairs k_are_pairs), PySem.W.mg_of X G a_are_pairs, ((fun_mk (st := s_are_pairs) l_are_pairs e_are_pairs k_are_pairs)).binds (ps := ["value"]) fun _ _ _ _ _ _ us hl => match us, hl with | [_], _ => rfl,
    f_is_store, _, (fun_mk (st := s_is_store) l_is_store e_is_store k_is_store), PySem.W.mg_of X G a_is_store, ((fun_mk (st := s_is_store) l_is_store e_is_store k_is_store)).binds (ps := ["value"]) fun _ _ _ _ _ _ us hl => match us, hl with | [_], _ => rfl,
    f_number_in, _, (fun_mk (st := s_number_in) l_number_in e_number_in k_number_in), PySem.W.mg_of X G a_number_in, ((fun_mk (st := s_number_in) l_number_in e_number_in k_number_in)).binds (ps := ["text"]) fun _ _ _ _ _ _ us hl => match us, hl with | [_], _ => rfl,
    f_need_text, _, (fun_mk (st := s_need_text) l_need_text e_need_text k_need_text), PySem.W.mg_of X G a_need_text, ((fun_mk (st := s_need_text) l_need_text e_need_text k_need_text)).binds (ps := ["text"]) fun _ _ _ _ _ _ us hl => match us, hl with | [_], _ => rfl,
    f_store_in, _, (fun_mk (st := s_store_in) l_store_in e_store_in k_store_in), PySem.W.mg_of X G a_store_in, ((fun_mk (st := s_store_in) l_store_in e_store_in k_store_in)).binds (ps := ["text"]) fun _ _ _ _ _ _ us hl => match us, hl with | [_], _ => rfl,
    f_mark_in, _, (fun_mk (st := s_mark_in) l_mark_in e_mark_in k_mark_in), PySem.W.mg_of X G a_mark_in, ((fun_mk (st := s_mark_in) l_mark_in e_mark_in k_mark_in)).binds (ps := ["text"]) fun _ _ _ _ _ _ us hl => match us, hl with | [_], _ => rfl,
    f_read_state, _, (fun_mk (st := s_read_state) l_read_state e_read_state k_read_state), PySem.W.mg_of X G a_read_state, ((fun_mk (st := s_read_state) l_read_state e_read_state k_read_state)).binds (ps := ["text"]) fun _ _ _ _ _ _ us hl => match us, hl with | [_], _ => rfl,
    f_l_feed, _, (fun_mk (st := s_l_feed) l_l_feed e_l_feed k_l_feed), PySem.W.mg_of X G a_l_feed, ((fun_mk (st := s_l_feed) l_l_feed e_l_feed k_l_feed)).binds (ps := ["_law_script"]) fun _ _ _ _ _ _ us hl => match us, hl with | [_], _ => rfl,
    f_l_take, _, (fun_mk (st := s_l_take) l_l_take e_l_take k_l_take), PySem.W.mg_of X G a_l_take, ((fun_mk (st := s_l_take) l_l_take e_l_take k_l_take)).binds (ps := ["_law_feed_here", "_law_bound"]) fun _ _ _ _ _ _ us hl => match us, hl with | [_, _], _ => rfl,
    f_l_word, _, (fun_mk (st := s_l_word) l_l_word e_l_word k_l_word), PySem.W.mg_of X G a_l_word, ((fun_mk (st := s_l_word) l_l_word e_l_word k_l_word)).binds (ps := ["_law_feed_here"]) fun _ _ _ _ _ _ us hl => match us, hl with | [_], _ => rfl,
    f_l_number, _, (fun_mk (st := s_l_number) l_l_number e_l_number k_l_number), PySem.W.mg_of X G a_l_number, ((fun_mk (st := s_l_number) l_l_number e_l_number k_l_number)).binds (ps := ["_law_feed_here"]) fun _ _ _ _ _ _ us hl => match us, hl with | [_], _ => rfl,
    f_l_pairs, _, (fun_mk (st := s_l_pairs) l_l_pairs e_l_pairs k_l_pairs), PySem.W.mg_of X G a_l_pairs, ((fun_mk (st := s_l_pairs) l_l_pairs e_l_pairs k_l_pairs)).binds (ps := ["_law_feed_here", "_law_most", "_law_rare"]) fun _ _ _ _ _ _ us hl => match us, hl with | [_, _, _], _ => rfl,
    f_l_state, _, (fun_mk (st := s_l_state) l_l_state e_l_state k_l_state), PySem.W.mg_of X G a_l_state, ((fun_mk (st := s_l_state) l_l_state e_l_state k_l_state)).binds (ps := ["_law_feed_here", "_law_most", "_law_keys"]) fun _ _ _ _ _ _ us hl => match us, hl with | [_, _, _], _ => rfl,
    f_l_is_word, _, (fun_mk (st := s_l_is_word) l_l_is_word e_l_is_word k_l_is_word), PySem.W.mg_of X G a_l_is_word, ((fun_mk (st := s_l_is_word) l_l_is_word e_l_is_word k_l_is_word)).binds (ps := ["_law_thing"]) fun _ _ _ _ _ _ us hl => match us, hl with | [_], _ => rfl,
    f_l_is_number, _, (fun_mk (st := s_l_is_number) l_l_is_number e_l_is_number k_l_is_number), PySem.W.mg_of X G a_l_is_number, ((fun_mk (st := s_l_is_number) l_l_is_number e_l_is_number k_l_is_number)).binds (ps := ["_law_thing"]) fun _ _ _ _ _ _ us hl => match us, hl with | [_], _ => rfl,
    f_l_full_text, _, (fun_mk (st := s_l_full_text) l_l_full_text e_l_full_text k_l_full_text), PySem.W.mg_of X G a_l_full_text, ((fun_mk (st := s_l_full_text) l_l_full_text e_l_full_text k_l_full_text)).binds (ps := ["_law_full"]) fun _ _ _ _ _ _ us hl => match us, hl with | [_], _ => rfl,
    f_l_state_text, _, (fun_mk (st := s_l_state_text) l_l_state_text e_l_state_text k_l_state_text), PySem.W.mg_of X G a_l_state_text, ((fun_mk (st := s_l_state_text) l_l_state_text e_l_state_text k_l_state_text)).binds (ps := ["_law_now"]) fun _ _ _ _ _ _ us hl => match us, hl with | [_], _ => rfl,
    f_l_number_in, _, (fun_mk (st := s_l_number_in) l_l_number_in e_l_number_in k_l_number_in), PySem.W.mg_of X G a_l_number_in, ((fun_mk (st := s_l_number_in) l_l_number_in e_l_number_in k_l_number_in)).binds (ps := ["_law_part"]) fun _ _ _ _ _ _ us hl => match us, hl with | [_], _ => rfl,
    f_l_bent_text, _, (fun_mk (st := s_l_bent_text) l_l_bent_text e_l_bent_text k_l_bent_text), PySem.W.mg_of X G a_l_bent_text, ((fun_mk (st := s_l_bent_text) l_l_bent_text e_l_bent_text k_l_bent_text)).binds (ps := ["_law_feed_here", "_law_whole"]) fun _ _ _ _ _ _ us hl => match us, hl with | [_, _], _ => rfl,
    f_l_heard, _, (fun_mk (st := s_l_heard) l_l_heard e_l_heard k_l_heard), PySem.W.mg_of X G a_l_heard, ((fun_mk (st := s_l_heard) l_l_heard e_l_heard k_l_heard)).binds (ps := ["_law_ask"]) fun _ _ _ _ _ _ us hl => match us, hl with | [_], _ => rfl,
    f_l_full_in, _, (fun_mk (st := s_l_full_in) l_l_full_in e_l_full_in k_l_full_in), PySem.W.mg_of X G a_l_full_in, ((fun_mk (st := s_l_full_in) l_l_full_in e_l_full_in k_l_full_in)).binds (ps := ["_law_row"]) fun _ _ _ _ _ _ us hl => match us, hl with | [_], _ => rfl,
    f_l_due, _, (fun_mk (st := s_l_due) l_l_due e_l_due k_l_due), PySem.W.mg_of X G a_l_due, ((fun_mk (st := s_l_due) l_l_due e_l_due k_l_due)).binds (ps := ["_law_thing"]) fun _ _ _ _ _ _ us hl => match us, hl with | [_], _ => rfl,
    fa, _, (fun_mk (st := s_law) l_law e_law k_law), PySem.W.mg_of X G a_law, ((fun_mk (st := s_law) l_law e_law k_law)).binds (ps := ["_law_script"]) fun _ _ _ _ _ _ us hl => match us, hl with | [_], _ => rfl,
    c_law, P_law, ct_law_.1⟩, rfl, rfl, rfl, rfl⟩
  obtain ⟨T, e1, e2, ec_law, eP_law⟩ := T
  refine ⟨PySem.W.fnOf "law" "law" (defArgs s_law) (defBody s_law) (defScope s_law) .none kV_law dc_law pm_law an_law cd_law ct_law, [(c_law, P_law)], T.tb, ap_cons tt_law_.2 (ap_nil), ap_cons n_law (ap_nil), ap_cons tt_law_.1 (ap_nil), ?_, fun s u => .of_eq rfl, fun base _ _ hB => ?_⟩
  · exact ap_cons ⟨(c_law, P_law), List.mem_of_getElem? (i := 0) rfl, eP_law⟩ (ap_nil)
  have q := ok_law (P := P) (w := w) (base := base) T (by rw [ec_law, eP_law]; exact hB _ (List.mem_of_getElem? (i := 0) rfl)) holds
  rw [e1, e2] at q
  exact q
end
end Q81
open PySem PySem.W PyProof.Rows
set_option maxHeartbeats 0 in
theorem PySem.Challenge.cw_rewindplan_k81_states_read_holds : PySem.Challenge.rw_rewindplan_k81_states_read.Holds := by
  w_on; o_law; k_head; (case hw => w_witness2)
  k_fill
  refine PL.law_endT (l := PySem.Challenge.rw_rewindplan_k81_states_read) (k := 10) (x := "_law_script") rfl rfl ⟨rfl, by decide, by decide⟩ (fun w h Y => PySem.W.km_in_of Y) ?F
  case F =>
    intro w mg fa h Y KX G hmg TT
    refine' Q81.fin KX G Q81.holds hmg TT ?hx_law ?z_ValueError ?z_abs ?z_all ?z_bool ?z_enumerate ?z_int ?z_isinstance ?z_len ?z_list ?z_range ?z_repr ?z_sorted ?z_str ?z_tuple ?c_DIGITS ?c_GREATEST_VALUE ?c_LETTERS ?c_LONGEST_WORD ?c_MOST_DIGITS ?c_NOTHING ?xa_RewindError ?xa_InvalidState ?xa_InvalidScript ?xa_InvalidCommand ?xa_InvalidProgram ?xa_InvalidText ?xa_InvalidLine ?xa_Refused ?xa_Full ?xa_TooLong ?xa_TooLarge ?xi_InvalidText ?xl_InvalidText ?xe_InvalidText ?xk_InvalidText ?xt_InvalidText ?xb_InvalidText ?xch ?xf_position ?a_is_integer ?l_is_integer ?e_is_integer ?k_is_integer ?a_is_between ?l_is_between ?e_is_between ?k_is_between ?a_is_word ?l_is_word ?e_is_word ?k_is_word ?a_is_value ?l_is_value ?e_is_value ?k_is_value ?a_are_pairs ?l_are_pairs ?e_are_pairs ?k_are_pairs ?a_is_store ?l_is_store ?e_is_store ?k_is_store ?a_number_in ?l_number_in ?e_number_in ?k_number_in ?a_need_text ?l_need_text ?e_need_text ?k_need_text ?a_store_in ?l_store_in ?e_store_in ?k_store_in ?a_mark_in ?l_mark_in ?e_mark_in ?k_mark_in ?a_read_state ?l_read_state ?e_read_state ?k_read_state ?a_l_feed ?l_l_feed ?e_l_feed ?k_l_feed ?a_l_take ?l_l_take ?e_l_take ?k_l_take ?a_l_word ?l_l_word ?e_l_word ?k_l_word ?a_l_number ?l_l_number ?e_l_number ?k_l_number ?a_l_pairs ?l_l_pairs ?e_l_pairs ?k_l_pairs ?a_l_state ?l_l_state ?e_l_state ?k_l_state ?a_l_is_word ?l_l_is_word ?e_l_is_word ?k_l_is_word ?a_l_is_number ?l_l_is_number ?e_l_is_number ?k_l_is_number ?a_l_full_text ?l_l_full_text ?e_l_full_text ?k_l_full_text ?a_l_state_text ?l_l_state_text ?e_l_state_text ?k_l_state_text ?a_l_number_in ?l_l_number_in ?e_l_number_in ?k_l_number_in ?a_l_bent_text ?l_l_bent_text ?e_l_bent_text ?k_l_bent_text ?a_l_heard ?l_l_heard ?e_l_heard ?k_l_heard ?a_l_full_in ?l_l_full_in ?e_l_full_in ?k_l_full_in ?a_l_due ?l_l_due ?e_l_due ?k_l_due ?a_law ?l_law ?e_law ?k_law ?tc_law ?tl_law ?tv_law ?n_law
    (case hx_law => decide +kernel)
    (case z_ValueError => k_is)
    (case z_abs => k_is)
    (case z_all => k_is)
    (case z_bool => k_is)
    (case z_enumerate => k_is)
    (case z_int => k_is)
    (case z_isinstance => k_is)
    (case z_len => k_is)
    (case z_list => k_is)
    (case z_range => k_is)
    (case z_repr => k_is)
    (case z_sorted => k_is)
    (case z_str => k_is)
    (case z_tuple => k_is)
    (case c_DIGITS => k_is)
    (case c_GREATEST_VALUE => k_is)
    (case c_LETTERS => k_is)
    (case c_LONGEST_WORD => k_is)
    (case c_MOST_DIGITS => k_is)
    (case c_NOTHING => k_is)
    (case xa_RewindError => k_is)
    (case xa_InvalidState => k_is)
    (case xa_InvalidScript => k_is)
    (case xa_InvalidCommand => k_is)
    (case xa_InvalidProgram => k_is)
    (case xa_InvalidText => k_is)
    (case xa_InvalidLine => k_is)
    (case xa_Refused => k_is)
    (case xa_Full => k_is)
    (case xa_TooLong => k_is)
    (case xa_TooLarge => k_is)
    (case xi_InvalidText => k_is)
    (case xl_InvalidText => k_is)
    (case xe_InvalidText => k_is)
    (case xk_InvalidText => k_is)
    (case xt_InvalidText => k_is)
    (case xb_InvalidText => kernel_rfl)
    (case xch => kernel_rfl)
    (case xf_position => kernel_rfl)
    (case a_is_integer => k_is)
    (case l_is_integer => k_is)
    (case e_is_integer => k_is)
    (case k_is_integer => k_is)
    (case a_is_between => k_is)
    (case l_is_between => k_is)
    (case e_is_between => k_is)
    (case k_is_between => k_is)
    (case a_is_word => k_is)
    (case l_is_word => k_is)
    (case e_is_word => k_is)
    (case k_is_word => k_is)
    (case a_is_value => k_is)
    (case l_is_value => k_is)
    (case e_is_value => k_is)
    (case k_is_value => k_is)
    (case a_are_pairs => k_is)
    (case l_are_pairs => k_is)
    (case e_are_pairs => k_is)
    (case k_are_pairs => k_is)
    (case a_is_store => k_is)
    (case l_is_store => k_is)
    (case e_is_store => k_is)
    (case k_is_store => k_is)
    (case a_number_in => k_is)
    (case l_number_in => k_is)
    (case e_number_in => k_is)
    (case k_number_in => k_is)
    (case a_need_text => k_is)
    (case l_need_text => k_is)
    (case e_need_text => k_is)
    (case k_need_text => k_is)
    (case a_store_in => k_is)
    (case l_store_in => k_is)
    (case e_store_in => k_is)
    (case k_store_in => k_is)
    (case a_mark_in => k_is)
    (case l_mark_in => k_is)
    (case e_mark_in => k_is)
    (case k_mark_in => k_is)
    (case a_read_state => k_is)
    (case l_read_state => k_is)
    (case e_read_state => k_is)
    (case k_read_state => k_is)
    (case a_l_feed => k_is)
    (case l_l_feed => k_is)
    (case e_l_feed => k_is)
    (case k_l_feed => k_is)
    (case a_l_take => k_is)
    (case l_l_take => k_is)
    (case e_l_take => k_is)
    (case k_l_take => k_is)
    (case a_l_word => k_is)
    (case l_l_word => k_is)
    (case e_l_word => k_is)
    (case k_l_word => k_is)
    (case a_l_number => k_is)
    (case l_l_number => k_is)
    (case e_l_number => k_is)
    (case k_l_number => k_is)
    (case a_l_pairs => k_is)
    (case l_l_pairs => k_is)
    (case e_l_pairs => k_is)
    (case k_l_pairs => k_is)
    (case a_l_state => k_is)
    (case l_l_state => k_is)
    (case e_l_state => k_is)
    (case k_l_state => k_is)
    (case a_l_is_word => k_is)
    (case l_l_is_word => k_is)
    (case e_l_is_word => k_is)
    (case k_l_is_word => k_is)
    (case a_l_is_number => k_is)
    (case l_l_is_number => k_is)
    (case e_l_is_number => k_is)
    (case k_l_is_number => k_is)
    (case a_l_full_text => k_is)
    (case l_l_full_text => k_is)
    (case e_l_full_text => k_is)
    (case k_l_full_text => k_is)
    (case a_l_state_text => k_is)
    (case l_l_state_text => k_is)
    (case e_l_state_text => k_is)
    (case k_l_state_text => k_is)
    (case a_l_number_in => k_is)
    (case l_l_number_in => k_is)
    (case e_l_number_in => k_is)
    (case k_l_number_in => k_is)
    (case a_l_bent_text => k_is)
    (case l_l_bent_text => k_is)
    (case e_l_bent_text => k_is)
    (case k_l_bent_text => k_is)
    (case a_l_heard => k_is)
    (case l_l_heard => k_is)
    (case e_l_heard => k_is)
    (case k_l_heard => k_is)
    (case a_l_full_in => k_is)
    (case l_l_full_in => k_is)
    (case e_l_full_in => k_is)
    (case k_l_full_in => k_is)
    (case a_l_due => k_is)
    (case l_l_due => k_is)
    (case e_l_due => k_is)
    (case k_l_due => k_is)
    (case a_law => k_is)
    (case l_law => k_is)
    (case e_law => k_is)
    (case k_law => k_is)
    (case tc_law => exact rfl)
    (case tl_law => k_is)
    (case tv_law => exact rfl)
    (case n_law => kernel_rfl)

