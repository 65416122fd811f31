import PyProof.Rows.All
import HandS.ForMost
import HandS.EndBits
import HandS.Exc
import HandS.ExcOwn
import HandS.WordsExc
import HandS.TupAny
import HandS.Flow
import HandS.Lambda
import HandS.TupMul
import HandS.IsInst
import HandS.Text
import HandS.Style
import HandS.Conv
import HandS.Wide
import HandS.NoneIn
import HandS.Iter
import HandS.Comp
import HandS.Dict
import KE.GoesMore
import HandS.More
import PyProof.DictDisplay
import PyProof.DictUpdate
import KE.KDictPairs
import HandS.SortRule
import PyProof.Rows.SortKeyStr
import HandS.Zip
import HandS.ListItems
import KE.KExcInit
import HandS.ExcInit
import HandS.ExcIs
import HandS.ExcField
import KE.KTryMore
import HandS.ExcValue
import KE.KExcIs
import HandS.EndTab
import KE.DataFind
import HandS.Deep
import HandS.RaiseMore
import HandS.SortKw
import KE.DataMinMax
import PyProof.Rows.TupReads
import PyProof.Rows.Shapes
import HandS.List
import HandS.Star
import HandS.Property
import HandS.ClsMeth
import HandS.Defaults
import KE.KUnpackStar
import KE.GoesEnumKw
import KE.KDictWalk
import KE.KDictExact
import HandS.DictTup
import PySem.Challenge.RW_rewindplan_k31_whole_rules_act_alike
set_option Elab.async false
set_option linter.all false
set_option maxRecDepth 100000
/-! A layer over the hand layer: values as data, names as data, one rule a construct; what a def does is a function over data (W: a wish transformer). -/
namespace PL
open PySem PySem.Spec PyProof.Rows L2

/-- data -/
inductive D where
  | non | bl (b : Bool) | int (i : Int) | str (x : Str) | lst (xs : List D) | tup (xs : List D) | dic (kvs : List (Key × D)) | ins (c f : Str) (x : D)

/-- data, or an object that is changed: a list, a dict -/
inductive Ob where
  | d (x : D) | o (a : Addr)
inductive Nd where
  | lst (xs : List Ob) | dic (kvs : List (Key × Ob))
/-- how many draws there were at most; what the objects hold that are changed -/
structure Nt where
  n : Nat
  μ : Addr → Option Nd

/-- an error: its class's name, its fields -/
abbrev Exc := Str × List (Str × D)

abbrev n0 : Nt := ⟨0, fun _ => none⟩
abbrev W (α : Type) := Nt → (α → Nt → Prop) → (Exc → Nt → Prop) → Prop
section
variable {α β : Type}
def ret (a : α) : W α := fun n P _ => P a n
def bnd (m : W α) (f : α → W β) : W β := fun n P X => m n (fun a k => f a k P X) X
def stuck : W α := fun _ _ _ => False
def grd (p : Prop) (m : W α) : W α := fun n P X => p ∧ m n P X
end

/-- what a name holds: nothing yet, data that stays, a list or dict of the def's own, the source of draws, an error that was caught, a lambda (its object, its code, its maker's names, what of them is data) -/
inductive SV where
  | un | d (x : D) | own (xs : List D) | ownK (kvs : List (Key × D)) | pen | exc (x : Exc) | lam (f c : Addr) (q : Str) (σ : L2.St) (ds : List (Option D)) | o (a : Addr)
abbrev Env := List SV
def SV.isOwn : SV → Bool
  | .own _ => true
  | .ownK _ => true
  | _ => false
def SV.bor : SV → SV
  | .own xs => .d (.lst xs)
  | .ownK kvs => .d (.dic kvs)
  | s => s
def bor (ρ : Env) : Env := ρ.map SV.bor

/-- a tuple of the written part -/
def WrT (K : PySem.W.Frag) (a : Addr) (xs : List V) : Prop :=
  ∃ (o : Obj) (its : Array Value) (n : Nat), K.lookup a = some o ∧ o.cls = .type "tuple" ∧ o.dict = none ∧ o.data = .seq its n ∧ its.size ≤ sizeLine ∧ Vals xs its.toList
def RdL (S : Addr → Prop) (H : Hp) (a : Addr) (xs : List V) : Prop := S a ∧ H a = some (.lst xs)
/-- a tuple without a dict of its own -/
def PlT (H : Hp) (a : Addr) (xs : List V) : Prop := ∃ o, H a = some (.frz o (.tup xs)) ∧ o.dict = none
def RdT (K : PySem.W.Frag) (S : Addr → Prop) (H : Hp) (a : Addr) (xs : List V) : Prop := (S a ∧ PlT H a xs) ∨ WrT K a xs

/-- an own class whose instances have one field that is never changed -/
structure InsC (K : PySem.W.Frag) (c f : Str) (C : Addr) : Prop where
  at_ : PySem.W.nsIn K mainGlobals c = some (some (.ref C))
  cls : Cls K C
  no : NoAttr K C f
  ca : PySem.W.findIn K (.ref C) "__class__" = some (some (.builtin "object.__class__"))
  cn : PySem.W.specialIn K (.builtin "object.__class__") "__get__" = some (some (.builtin "getset_descriptor.__get__"))
  ct : PySem.W.takesIn K (.builtin "object.__class__") = some true
  cm : PySem.W.mroIn K C (.type "object") = some true
  kit : ∀ T ∈ ["int", "bool", "str", "tuple", "list", "dict"], PySem.W.kitOne K (.ref C) (.type T) = some false
mutual
def Rep (K : PySem.W.Frag) (S : Addr → Prop) (H : Hp) : D → V → Prop
  | .non, v => v = .non
  | .bl b, v => v = .bl b
  | .int i, v => v = .int i
  | .str x, v => v = .str x ∧ x.length ≤ sizeLine
  | .lst xs, v => ∃ a vs, v = .ref a ∧ RdL S H a vs ∧ xs.length ≤ sizeLine ∧ Reps K S H xs vs
  | .tup xs, v => ∃ a vs, v = .ref a ∧ RdT K S H a vs ∧ xs.length ≤ sizeLine ∧ Reps K S H xs vs
  | .dic kvs, v => ∃ a kws, v = .ref a ∧ (S a ∧ Rd H a (.dK kws)) ∧ RepK K S H kvs kws
  | .ins c f x, v => ∃ a C dx w, v = .ref a ∧ InsC K c f C ∧ (S a ∧ H a = some (.ins C dx [(f, w)])) ∧ Rep K S H x w
def Reps (K : PySem.W.Frag) (S : Addr → Prop) (H : Hp) : List D → List V → Prop
  | [], vs => vs = []
  | x :: xs, vs => ∃ v ws, vs = v :: ws ∧ Rep K S H x v ∧ Reps K S H xs ws
def RepK (K : PySem.W.Frag) (S : Addr → Prop) (H : Hp) : List (Key × D) → List (Key × V) → Prop
  | [], vs => vs = []
  | (k, x) :: xs, vs => ∃ v ws, vs = (k, v) :: ws ∧ Rep K S H x v ∧ RepK K S H xs ws
end

/-- what stays -/
structure Grow (S S' : Addr → Prop) (H H' : Hp) : Prop where
  sub : ∀ a, S a → S' a
  eq : ∀ a, S a → H' a = H a
theorem Grow.refl {S : Addr → Prop} {H : Hp} : Grow S S H H := ⟨fun _ h => h, fun _ _ => rfl⟩
theorem Grow.trans {S S1 S2 : Addr → Prop} {H H1 H2 : Hp} (a : Grow S S1 H H1) (b : Grow S1 S2 H1 H2) : Grow S S2 H H2 :=
  ⟨fun x h => b.sub x (a.sub x h), fun x h => (b.eq x (a.sub x h)).trans (a.eq x h)⟩

section
variable {K : PySem.W.Frag} {S S' : Addr → Prop} {H H' : Hp}
theorem Rd.to {a : Addr} {u : HO} (e : H' a = H a) (h : Rd H a u) : Rd H' a u := by
  unfold Rd at *
  rw [e]
  exact h
theorem RdL.grow {a : Addr} {xs : List V} (g : Grow S S' H H') (h : RdL S H a xs) : RdL S' H' a xs := ⟨g.sub a h.1, (g.eq a h.1).trans h.2⟩
theorem RdT.grow {a : Addr} {xs : List V} (g : Grow S S' H H') (h : RdT K S H a xs) : RdT K S' H' a xs :=
  h.elim (fun ⟨z, o, e, d⟩ => .inl ⟨g.sub a z, o, (g.eq a z).trans e, d⟩) .inr
theorem RdL.sq {a : Addr} {xs : List V} (h : RdL S H a xs) : SqL K H a xs := .inl (.inl h.2)
theorem RdT.sq {a : Addr} {xs : List V} (h : RdT K S H a xs) : SqT K H a xs := h.elim (fun ⟨_, o, e, _⟩ => .inl (.inr ⟨o, e⟩)) fun ⟨o, its, n, h1, h2, _, h3⟩ => .inr ⟨o, its, n, h1, h2, h3⟩
mutual
theorem Rep.grow (g : Grow S S' H H') : ∀ (d : D) (v : V), Rep K S H d v → Rep K S' H' d v
  | .non, _, h => h
  | .bl _, _, h => h
  | .int _, _, h => h
  | .str _, _, h => h
  | .lst xs, _, h => by
    obtain ⟨a, vs, e, r, z, q⟩ := h
    exact ⟨a, vs, e, r.grow g, z, Reps.grow g xs vs q⟩
  | .tup xs, _, h => by
    obtain ⟨a, vs, e, r, z, q⟩ := h
    exact ⟨a, vs, e, r.grow g, z, Reps.grow g xs vs q⟩
  | .dic kvs, _, h => by
    obtain ⟨a, kws, e, ⟨r, r2⟩, q⟩ := h
    exact ⟨a, kws, e, ⟨g.sub a r, Rd.to (g.eq a r) r2⟩, RepK.grow g kvs kws q⟩
  | .ins _ _ x, _, h => by
    obtain ⟨a, C, dx, w, e, i, ⟨r, r2⟩, q⟩ := h
    exact ⟨a, C, dx, w, e, i, ⟨g.sub a r, (g.eq a r).trans r2⟩, Rep.grow g x w q⟩
theorem Reps.grow (g : Grow S S' H H') : ∀ (xs : List D) (vs : List V), Reps K S H xs vs → Reps K S' H' xs vs
  | [], _, h => h
  | x :: xs, _, h => by
    obtain ⟨v, ws, e, r, q⟩ := h
    exact ⟨v, ws, e, Rep.grow g x v r, Reps.grow g xs ws q⟩
theorem RepK.grow (g : Grow S S' H H') : ∀ (xs : List (Key × D)) (vs : List (Key × V)), RepK K S H xs vs → RepK K S' H' xs vs
  | [], _, h => h
  | (k, x) :: xs, _, h => by
    obtain ⟨v, ws, e, r, q⟩ := h
    exact ⟨v, ws, e, Rep.grow g x v r, RepK.grow g xs ws q⟩
end
theorem Reps.len : ∀ {xs : List D} {vs : List V}, Reps K S H xs vs → vs.length = xs.length
  | [], _, h => by
    have e : _ = [] := h
    rw [e]
    rfl
  | _ :: xs, _, h => by
    obtain ⟨v, ws, rfl, _, q⟩ := h
    show ws.length + 1 = xs.length + 1
    rw [Reps.len q]
theorem Reps.get : ∀ {xs : List D} {vs : List V} {i : Nat} {v : V}, Reps K S H xs vs → vs[i]? = some v → ∃ x, xs[i]? = some x ∧ Rep K S H x v
  | [], _, i, v, h, e => by
    have e1 : _ = [] := h
    rw [e1] at e
    cases e
  | x :: xs, _, 0, v, h, e => by
    obtain ⟨w, ws, rfl, r, _⟩ := h
    cases e
    exact ⟨x, rfl, r⟩
  | x :: xs, _, i + 1, v, h, e => by
    obtain ⟨w, ws, rfl, _, q⟩ := h
    exact Reps.get (i := i) q e
theorem Reps.at : ∀ {xs : List D} {vs : List V} {i : Nat} {x : D}, Reps K S H xs vs → xs[i]? = some x → ∃ v, vs[i]? = some v ∧ Rep K S H x v
  | [], _, i, x, h, e => by cases e
  | y :: xs, _, 0, x, h, e => by
    obtain ⟨w, ws, rfl, r, _⟩ := h
    cases e
    exact ⟨w, rfl, r⟩
  | y :: xs, _, i + 1, x, h, e => by
    obtain ⟨w, ws, rfl, _, q⟩ := h
    exact Reps.at (i := i) q e
theorem Reps.app : ∀ {xs ys : List D} {vs ws : List V}, Reps K S H xs vs → Reps K S H ys ws → Reps K S H (xs ++ ys) (vs ++ ws)
  | [], ys, vs, ws, h, q => by
    have e : vs = [] := h
    rw [e]
    exact q
  | x :: xs, ys, vs, ws, h, q => by
    obtain ⟨v, us, rfl, r, t⟩ := h
    exact ⟨v, us ++ ws, rfl, r, Reps.app t q⟩
theorem Reps.one {x : D} {v : V} (r : Rep K S H x v) : Reps K S H [x] [v] := ⟨v, [], rfl, r, rfl⟩
theorem Reps.nil : Reps K S H [] [] := rfl
theorem Reps.cons {x : D} {v : V} {xs : List D} {vs : List V} (r : Rep K S H x v) (q : Reps K S H xs vs) : Reps K S H (x :: xs) (v :: vs) := ⟨v, vs, rfl, r, q⟩
theorem Reps.drop : ∀ (n : Nat) {xs : List D} {vs : List V}, Reps K S H xs vs → Reps K S H (xs.drop n) (vs.drop n)
  | 0, _, _, h => h
  | n + 1, [], vs, h => by
    have e : vs = [] := h
    rw [e]
    rfl
  | n + 1, x :: xs, _, h => by
    obtain ⟨v, us, rfl, _, t⟩ := h
    exact Reps.drop n t
theorem Reps.take : ∀ (n : Nat) {xs : List D} {vs : List V}, Reps K S H xs vs → Reps K S H (xs.take n) (vs.take n)
  | 0, _, _, h => rfl
  | n + 1, [], vs, h => by
    have e : vs = [] := h
    rw [e]
    rfl
  | n + 1, x :: xs, _, h => by
    obtain ⟨v, us, rfl, r, t⟩ := h
    exact ⟨v, us.take n, rfl, r, Reps.take n t⟩
theorem Reps.set : ∀ (i : Nat) {xs : List D} {vs : List V} {x : D} {v : V}, Reps K S H xs vs → Rep K S H x v → Reps K S H (xs.set i x) (vs.set i v)
  | _, [], vs, x, v, h, _ => by
    have e : vs = [] := h
    rw [e]
    rfl
  | 0, y :: xs, _, x, v, h, r => by
    obtain ⟨w, us, rfl, _, t⟩ := h
    exact ⟨v, us, rfl, r, t⟩
  | i + 1, y :: xs, _, x, v, h, r => by
    obtain ⟨w, us, rfl, q, t⟩ := h
    exact ⟨w, us.set i v, rfl, q, Reps.set i t r⟩
end

/-- the source of draws: what its two objects hold after at most n draws; the tables of code objects (with the name of the code in them); the module's names -/
structure PenK where
  inv : Hp → Addr → Addr → Nat → Prop
  dep : ∀ {H H' : Hp} {a b : Addr} {n : Nat}, inv H a b n → H' a = H a → H' b = H b → inv H' a b n
  there : ∀ {H : Hp} {a b : Addr} {n : Nat}, inv H a b n → H a ≠ none ∧ H b ≠ none
  isL : ∀ {H : Hp} {a b : Addr} {n : Nat}, inv H a b n → (∃ xs, H a = some (.lst xs)) ∧ ∃ xs, H b = some (.lst xs)
  tab : List (Addr × Str) := []
  mg : Str → Option Value := fun _ => none
  chg : Bool := false

/-- an error as it lies in the heap -/
def RepX (K : PySem.W.Frag) (mg : Str → Option Value) (S : Addr → Prop) (H : Hp) (x : Exc) (cls : Value) (dd : Option Addr) : Prop :=
  ∃ A : Addr, mg x.1 = some (.ref A) ∧ cls = .ref A ∧ ((x.2 = [] ∧ dd = none) ∨ ∃ d fv, dd = some d ∧ S d ∧ H d = some (.xd fv) ∧ Paired (fun (p : Str × D) (q : Str × V) => p.1 = q.1 ∧ Rep K S H p.2 q.2) x.2 fv)
theorem repX_pair {K : PySem.W.Frag} {S S' : Addr → Prop} {H H' : Hp} (f : ∀ d v, Rep K S H d v → Rep K S' H' d v) : ∀ {xs : List (Str × D)} {fv : List (Str × V)}, Paired (fun (p : Str × D) (q : Str × V) => p.1 = q.1 ∧ Rep K S H p.2 q.2) xs fv → Paired (fun (p : Str × D) (q : Str × V) => p.1 = q.1 ∧ Rep K S' H' p.2 q.2) xs fv
  | _, _, .nil => .nil
  | _, _, .cons h t => .cons ⟨h.1, f _ _ h.2⟩ (repX_pair f t)
theorem RepX.grow {K : PySem.W.Frag} {mg : Str → Option Value} {S S' : Addr → Prop} {H H' : Hp} {x : Exc} {cls : Value} {dd : Option Addr} (g : Grow S S' H H') (h : RepX K mg S H x cls dd) : RepX K mg S' H' x cls dd := by
  obtain ⟨A, h1, h2, h3⟩ := h
  refine ⟨A, h1, h2, h3.imp id fun ⟨d, fv, e, hs, hd, p⟩ => ⟨d, fv, e, g.sub d hs, (g.eq d hs).trans hd, repX_pair (fun d v r => Rep.grow g d v r) p⟩⟩
/-- an error object that was caught -/
def ErrO (cls : Value) (dd : Option Addr) (a : Addr) : HO := .ext fun h => ∃ (oe : Obj) (vs : Array Value), h.get? a = some oe ∧ Zc cls dd oe ∧ oe.data = .fields vs
/-- a table of code objects: those that it tells stay -/
def TabI (S : Addr → Prop) (H : Hp) (P : Addr) (q : Str) : Prop := ∃ ps : Array Value, H P = some (.tbl ps) ∧ TriplesOk ps.toList ∧ ∀ (pos : Pos) (cv : Value), codeAmong pos ps.toList = some cv → ∃ c, cv = .ref c ∧ S c ∧ H c = some (LamX.CodeO c q)
theorem TabI.grow {S S' : Addr → Prop} {H H' : Hp} {P : Addr} {q : Str} (g : Grow S S' H H') (e : H' P = H P) (h : TabI S H P q) : TabI S' H' P q := by
  obtain ⟨ps, h1, h2, h3⟩ := h
  refine ⟨ps, e.trans h1, h2, fun pos cv z => ?_⟩
  obtain ⟨c, e1, e2, e3⟩ := h3 pos cv z
  exact ⟨c, e1, g.sub c e2, (g.eq c e2).trans e3⟩
theorem TabI.there {S : Addr → Prop} {H : Hp} {P : Addr} {q : Str} (h : TabI S H P q) : H P ≠ none := by
  obtain ⟨ps, h1, _⟩ := h
  rw [h1]
  exact fun z => nomatch z
/-- what a lambda's body may read -/
def LamOk (K : PySem.W.Frag) (S : Addr → Prop) (H : Hp) (c : Addr) (q : Str) (σ : L2.St) (ds : List (Option D)) : Prop :=
  S c ∧ H c = some (LamX.CodeO c q) ∧ ds.length = σ.length ∧ ∀ (i : Nat) (x : D), ds[i]? = some (some x) → ∃ v, (σ[i]?).join = some v ∧ Rep K S H x v
theorem LamOk.grow {K : PySem.W.Frag} {S S' : Addr → Prop} {H H' : Hp} {c : Addr} {q : Str} {σ : L2.St} {ds : List (Option D)} (g : Grow S S' H H') (h : LamOk K S H c q σ ds) : LamOk K S' H' c q σ ds := by
  obtain ⟨h1, h2, h3, h4⟩ := h
  refine ⟨g.sub c h1, (g.eq c h1).trans h2, h3, fun i x e => ?_⟩
  obtain ⟨v, e1, r⟩ := h4 i x e
  exact ⟨v, e1, Rep.grow g x v r⟩

def D.sc : D → Bool
  | .non => true
  | .bl _ => true
  | .int _ => true
  | .str _ => true
  | _ => false
theorem Rep.sc {K : PySem.W.Frag} {S S' : Addr → Prop} {H H' : Hp} {d : D} {v : V} (h : d.sc = true) (r : Rep K S H d v) : Rep K S' H' d v := by
  cases d <;> first | exact r | cases h
/-- data in an object that is changed: without parts -/
def RepO (K : PySem.W.Frag) (S : Addr → Prop) (H : Hp) : Ob → V → Prop
  | .d x, v => x.sc = true ∧ Rep K S H x v
  | .o a, v => v = .ref a
theorem RepO.move {K : PySem.W.Frag} {S S' : Addr → Prop} {H H' : Hp} {x : Ob} {v : V} (h : RepO K S H x v) : RepO K S' H' x v := by
  cases x with
  | d x => exact ⟨h.1, h.2.sc h.1⟩
  | o a => exact h
/-- what an object that is changed holds -/
def NdOk (K : PySem.W.Frag) (S : Addr → Prop) (H : Hp) (a : Addr) : Nd → Prop
  | .lst xs => ∃ vs, H a = some (.lst vs) ∧ xs.length ≤ sizeLine ∧ Paired (RepO K S H) xs vs
  | .dic kvs => ∃ kws, H a = some (.dK kws) ∧ Paired (fun (p : Key × Ob) (q : Key × V) => p.1 = q.1 ∧ RepO K S H p.2 q.2) kvs kws
theorem paired_imp {α β : Type} {r s : α → β → Prop} (f : ∀ a b, r a b → s a b) : ∀ {xs : List α} {ys : List β}, Paired r xs ys → Paired s xs ys
  | _, _, .nil => .nil
  | _, _, .cons h t => .cons (f _ _ h) (paired_imp f t)
theorem NdOk.move {K : PySem.W.Frag} {S S' : Addr → Prop} {H H' : Hp} {a : Addr} {nd : Nd} (e : H' a = H a) (h : NdOk K S H a nd) : NdOk K S' H' a nd := by
  cases nd with
  | lst xs => obtain ⟨vs, e1, z, r⟩ := h; exact ⟨vs, e.trans e1, z, paired_imp (fun _ _ h => h.move) r⟩
  | dic kvs => obtain ⟨kws, e1, r⟩ := h; exact ⟨kws, e.trans e1, paired_imp (fun _ _ h => ⟨h.1, h.2.move⟩) r⟩
theorem NdOk.grow {K : PySem.W.Frag} {S S' : Addr → Prop} {H H' : Hp} {a : Addr} {nd : Nd} (g : Grow S S' H H') (e : H' a = H a) (h : NdOk K S H a nd) : NdOk K S' H' a nd := h.move e
theorem NdOk.there {K : PySem.W.Frag} {S : Addr → Prop} {H : Hp} {a : Addr} {nd : Nd} (h : NdOk K S H a nd) : H a ≠ none := by
  cases nd with
  | lst xs => obtain ⟨vs, e1, _⟩ := h; rw [e1]; exact fun z => nomatch z
  | dic kvs => obtain ⟨kws, e1, _⟩ := h; rw [e1]; exact fun z => nomatch z
/-- the ghost: what stays, the heap at the entry, the source of draws, what is never among what stays -/
structure C where
  S : Addr → Prop
  H0 : Hp
  pen : Option (Addr × Addr)
  no : Addr → Prop
  mu : Addr → Prop := fun _ => False
/-- the source of draws and the tables -/
def PenK.pent (G : PenK) (c : C) (a : Addr) : Prop := (∃ p, c.pen = some p ∧ (a = p.1 ∨ a = p.2)) ∨ ∃ q ∈ G.tab, a = q.1
/-- what may be changed beneath the frame -/
def PenK.pens (G : PenK) (c : C) (a : Addr) : Prop := G.pent c a ∨ c.mu a
abbrev C.to (c : C) (S' : Addr → Prop) : C := { c with S := S' }
def Young (c : C) (n : Nt) (a : Addr) : Prop := ¬ c.S a ∧ c.H0 a = none ∧ n.μ a = none
def slot (σ : L2.St) (i : Nat) : Option V := (σ[i]?).join

def SlotOk (G : PenK) (K : PySem.W.Frag) (c : C) (H : Hp) : SV → Option V → Prop
  | .un, _ => True
  | .d x, o => ∃ v, o = some v ∧ Rep K c.S H x v
  | .own xs, o => ∃ a vs, o = some (.ref a) ∧ H a = some (.lst vs) ∧ xs.length ≤ sizeLine ∧ Reps K c.S H xs vs
  | .ownK kvs, o => ∃ a kws, o = some (.ref a) ∧ H a = some (.dK kws) ∧ RepK K c.S H kvs kws
  | .pen, o => ∃ p, c.pen = some p ∧ o = some (.ref p.1)
  | .exc x, o => ∃ a cls dd, o = some (.ref a) ∧ c.S a ∧ H a = some (ErrO cls dd a) ∧ RepX K G.mg c.S H x cls dd
  | .lam f b q σ ds, o => o = some (.ref f) ∧ LamOk K c.S H b q σ ds
  | .o a, o => o = some (.ref a)

structure SI (G : PenK) (K : PySem.W.Frag) (c : C) (σ : L2.St) (H : Hp) (ρ : Env) (n : Nt) : Prop where
  len : ρ.length = σ.length
  slots : ∀ i sv, ρ[i]? = some sv → SlotOk G K c H sv (slot σ i)
  own : ∀ i sv a, ρ[i]? = some sv → sv.isOwn = true → slot σ i = some (.ref a) → Young c n a
  apart : ∀ i j sv sv' a, i ≠ j → ρ[i]? = some sv → ρ[j]? = some sv' → sv.isOwn = true → sv'.isOwn = true → slot σ i = some (.ref a) → slot σ j = some (.ref a) → False
  dom : ∀ a, c.S a → H a ≠ none
  fr : ∀ a o, c.H0 a = some o → ¬ G.pens c a → H a = some o
  pen : ∀ p, c.pen = some p → G.inv H p.1 p.2 n.n ∧ ¬ c.S p.1 ∧ ¬ c.S p.2 ∧ c.H0 p.1 ≠ none ∧ c.H0 p.2 ≠ none
  no : ∀ a, c.no a → ¬ c.S a ∧ c.H0 a ≠ none
  tab : ∀ q ∈ G.tab, c.no q.1 ∧ TabI c.S H q.1 q.2
  mu : ∀ a nd, n.μ a = some nd → NdOk K c.S H a nd ∧ ¬ c.S a ∧ (c.mu a ∨ c.H0 a = none) ∧ ¬ G.pent c a
  mu0 : ∀ a, c.mu a → n.μ a ≠ none ∧ c.H0 a ≠ none
  mz : G.chg = false → ∀ a, n.μ a = none

theorem slot_set_same {σ : L2.St} {i : Nat} {o : Option V} (h : i < σ.length) : slot (σ.set i o) i = o := by
  unfold slot
  rw [List.getElem?_set_self h]
  rfl
theorem slot_set_ne {σ : L2.St} {i j : Nat} {o : Option V} (h : i ≠ j) : slot (σ.set i o) j = slot σ j := by
  unfold slot
  rw [List.getElem?_set_ne h]
theorem slot_some {σ : L2.St} {i : Nat} {v : V} (h : slot σ i = some v) : σ[i]? = some (some v) := by
  unfold slot at h
  cases e : σ[i]? with
  | none => rw [e] at h; cases h
  | some o =>
    rw [e] at h
    have h2 : o = some v := h
    rw [h2]

section
variable {G : PenK} {K : PySem.W.Frag} {c : C} {σ : L2.St} {H H' : Hp} {ρ : Env} {n : Nt}
/-- what was new at the entry's heap is no source of draws -/
theorem SI.penOld (I : SI G K c σ H ρ n) {a : Addr} (h : c.H0 a = none) : ¬ G.pens c a := fun z => by
  rcases z with (⟨p, e, z⟩ | ⟨q, e, z⟩) | z
  · obtain ⟨_, _, _, h1, h2⟩ := I.pen p e
    rcases z with z | z
    · exact h1 (z ▸ h)
    · exact h2 (z ▸ h)
  · exact (I.no _ (I.tab q e).1).2 (z ▸ h)
  · exact (I.mu0 a z).2 h
/-- a table is none of what stays, nor new -/
theorem SI.tabN (I : SI G K c σ H ρ n) {q : Addr × Str} (h : q ∈ G.tab) : ¬ c.S q.1 ∧ c.H0 q.1 ≠ none ∧ H q.1 ≠ none := ⟨(I.no _ (I.tab q h).1).1, (I.no _ (I.tab q h).1).2, (I.tab q h).2.there⟩
/-- a free address is free at the entry too -/
theorem SI.freeOld (I : SI G K c σ H ρ n) {a : Addr} (h : H a = none) : c.H0 a = none := by
  cases e : c.H0 a with
  | none => rfl
  | some o =>
    by_cases hp : G.pens c a
    · rcases hp with (⟨p, e2, z⟩ | ⟨q, e2, z⟩) | z
      · obtain ⟨k1, k2⟩ := G.there (I.pen p e2).1
        rcases z with z | z
        · rw [z] at h; exact absurd h k1
        · rw [z] at h; exact absurd h k2
      · exact absurd (z ▸ h) (I.tabN e2).2.2
      · cases e : n.μ a with
        | none => exact absurd e (I.mu0 a z).1
        | some nd => exact absurd h (I.mu a nd e).1.there
    · have := I.fr a o e hp
      rw [h] at this
      cases this
theorem SI.freeM (I : SI G K c σ H ρ n) {a : Addr} (h : H a = none) : n.μ a = none := by
  cases e : n.μ a with
  | none => rfl
  | some nd => exact absurd h (I.mu a nd e).1.there
/-- what is changed is none of what stays -/
theorem SI.muS (I : SI G K c σ H ρ n) {a : Addr} (h : n.μ a ≠ none) : ¬ c.S a ∧ H a ≠ none := by
  obtain ⟨nd, e⟩ := Option.ne_none_iff_exists'.mp h
  exact ⟨(I.mu a nd e).2.1, (I.mu a nd e).1.there⟩
theorem SI.freeS (I : SI G K c σ H ρ n) {a : Addr} (h : H a = none) : ¬ c.S a := fun z => I.dom a z h
theorem SlotOk.grow {S' : Addr → Prop} (g : Grow c.S S' H H') {o : Option V} (ho : ∀ a, o = some (.ref a) → sv.isOwn = true → H' a = H a) (h : SlotOk G K c H sv o) : SlotOk G K (c.to S') H' sv o := by
  cases sv with
  | un => trivial
  | d x => obtain ⟨v, e, r⟩ := h; exact ⟨v, e, Rep.grow g x v r⟩
  | own xs => obtain ⟨a, vs, e, r, z, q⟩ := h; exact ⟨a, vs, e, (ho a e rfl).trans r, z, Reps.grow g xs vs q⟩
  | ownK kvs => obtain ⟨a, vs, e, r, q⟩ := h; exact ⟨a, vs, e, (ho a e rfl).trans r, RepK.grow g kvs vs q⟩
  | pen => exact h
  | exc x => obtain ⟨a, cls, dd, e, hs, ha, r⟩ := h; exact ⟨a, cls, dd, e, g.sub a hs, (g.eq a hs).trans ha, r.grow g⟩
  | lam f b q σ ds => exact ⟨h.1, h.2.grow g⟩
  | o a => exact h
/-- a new object is laid and stays -/
theorem SI.laid (I : SI G K c σ H ρ n) {p : Addr} {o : HO} (hp : H p = none) : SI G K (c.to fun a => c.S a ∨ a = p) σ (upd H p o) ρ n ∧ Grow c.S (fun a => c.S a ∨ a = p) H (upd H p o) := by
  have ne : ∀ a, H a ≠ none → a ≠ p := fun a h z => h (z ▸ hp)
  have g : Grow c.S (fun a => c.S a ∨ a = p) H (upd H p o) := ⟨fun _ h => .inl h, fun a h => upd_ne (ne a (I.dom a h))⟩
  refine ⟨⟨I.len, fun i sv e => (I.slots i sv e).grow g (fun a ea ho => upd_ne (ne a ?_)), fun i sv a e ho es => ?_, I.apart, fun a h => ?_, fun a u e hn => ?_, fun q e => ?_, fun a h => ⟨fun z => z.elim (I.no a h).1 fun z => (I.no a h).2 (z ▸ I.freeOld hp), (I.no a h).2⟩, fun q e => ⟨(I.tab q e).1, (I.tab q e).2.grow g (upd_ne (ne _ (I.tabN e).2.2))⟩, fun a nd e => ?_, I.mu0, I.mz⟩, g⟩
  · have h := I.slots i sv e
    cases sv with
    | own xs =>
      obtain ⟨b, vs, e1, r, _⟩ := h
      rw [e1] at ea
      cases ea
      rw [r]; exact fun z => nomatch z
    | ownK kvs =>
      obtain ⟨b, vs, e1, r, _⟩ := h
      rw [e1] at ea
      cases ea
      rw [r]; exact fun z => nomatch z
    | un => cases ho
    | d _ => cases ho
    | pen => cases ho
    | exc _ => cases ho
    | lam _ _ _ _ _ => cases ho
    | o _ => cases ho
  · obtain ⟨h1, h2⟩ := I.own i sv a e ho es
    refine ⟨fun z => z.elim h1 fun z => ?_, h2⟩
    have h := I.slots i sv e
    cases sv with
    | own xs =>
      obtain ⟨b, vs, e1, r, _⟩ := h
      rw [e1] at es
      cases es
      rw [z, hp] at r; cases r
    | ownK kvs =>
      obtain ⟨b, vs, e1, r, _⟩ := h
      rw [e1] at es
      cases es
      rw [z, hp] at r; cases r
    | un => cases ho
    | d _ => cases ho
    | pen => cases ho
    | exc _ => cases ho
    | lam _ _ _ _ _ => cases ho
    | o _ => cases ho
  · by_cases e : a = p
    · rw [e, upd_same]; exact fun z => nomatch z
    · rw [upd_ne e]
      exact I.dom a (h.resolve_right e)
  · have := I.fr a u e hn
    rw [upd_ne (ne a (by rw [this]; exact fun z => nomatch z))]
    exact this
  · obtain ⟨h1, h2, h3, h4, h5⟩ := I.pen q e
    obtain ⟨k1, k2⟩ := G.there h1
    exact ⟨G.dep h1 (upd_ne (ne _ k1)) (upd_ne (ne _ k2)), fun z => z.elim h2 (ne _ k1), fun z => z.elim h3 (ne _ k2), h4, h5⟩
  · obtain ⟨m1, m2, m3, m4⟩ := I.mu a nd e
    exact ⟨m1.grow g (upd_ne (ne _ m1.there)), fun z => z.elim m2 (ne _ m1.there), m3, m4⟩
end
end PL

/-! The layer's judgements, names, constants, operators, statements. -/
namespace PL
open PySem PySem.Spec L2

section
variable (G : PenK) (X : Cx) (Wx : WX)
/-- behind an expression that gives data -/
def Gl1 (c : C) (σ : L2.St) (ρ : Env) (H : Hp) (P : D → Nt → Prop) (Q : VK) : Prop :=
  ∀ d k v S' H', P d k → Grow c.S S' H H' → SI G X.K (c.to S') σ H' ρ k → Rep X.K S' H' d v → Q v H'
/-- .. that gives a new list -/
def FreshAt (c : C) (n : Nt) (σ : L2.St) (ρ : Env) (a : Addr) : Prop := Young c n a ∧ ∀ i sv, ρ[i]? = some sv → sv.isOwn = true → slot σ i ≠ some (.ref a)
def GlO (c : C) (σ : L2.St) (ρ : Env) (H : Hp) (P : List D → Nt → Prop) (Q : VK) : Prop :=
  ∀ xs k a vs S' H', P xs k → Grow c.S S' H H' → SI G X.K (c.to S') σ H' ρ k → H' a = some (.lst vs) → xs.length ≤ sizeLine → Reps X.K S' H' xs vs → FreshAt (c.to S') k σ ρ a → Q (.ref a) H'
/-- .. a test -/
def GlB (c : C) (σ : L2.St) (ρ : Env) (H : Hp) (P : Bool → Nt → Prop) (Q : Bool → Hp → Prop) : Prop :=
  ∀ b k S' H', P b k → Grow c.S S' H H' → SI G X.K (c.to S') σ H' ρ k → Q b H'
/-- .. arguments -/
def GlA (c : C) (σ : L2.St) (ρ : Env) (H : Hp) (P : List D → Nt → Prop) (Q : List V → Hp → Prop) : Prop :=
  ∀ ds k vs S' H', P ds k → Grow c.S S' H H' → SI G X.K (c.to S') σ H' ρ k → Reps X.K S' H' ds vs → Q vs H'
/-- what is wanted of errors -/
def OKx (c : C) (σ : L2.St) (ρ : Env) (H : Hp) (PX : Exc → Nt → Prop) : Prop :=
  ∀ x k S' H' cls dd, PX x k → Grow c.S S' H H' → SI G X.K (c.to S') σ H' ρ k → RepX X.K X.mg S' H' x cls dd → Wx cls dd σ H'
def OKs (c : C) (H : Hp) (PX : Exc → Nt → Prop) : Prop :=
  ∀ x k σ' ρ' S' H' cls dd, PX x k → Grow c.S S' H H' → SI G X.K (c.to S') σ' H' ρ' k → RepX X.K X.mg S' H' x cls dd → Wx cls dd σ' H'

def tE (g : Env → W D) : TE := fun σ H Q => ∃ c ρ n P PX, SI G X.K c σ H ρ n ∧ g ρ n P PX ∧ Gl1 G X c σ ρ H P Q ∧ OKx G X Wx c σ ρ H PX
def tO (g : Env → W (List D)) : TE := fun σ H Q => ∃ c ρ n P PX, SI G X.K c σ H ρ n ∧ g ρ n P PX ∧ GlO G X c σ ρ H P Q ∧ OKx G X Wx c σ ρ H PX
def tT (g : Env → W Bool) : TT := fun σ H Q => ∃ c ρ n P PX, SI G X.K c σ H ρ n ∧ g ρ n P PX ∧ GlB G X c σ ρ H P Q ∧ OKx G X Wx c σ ρ H PX
def tAr (g : Env → W (List D)) : TA := fun σ H Q => ∃ c ρ n P PX, SI G X.K c σ H ρ n ∧ g ρ n P PX ∧ GlA G X c σ ρ H P Q ∧ OKx G X Wx c σ ρ H PX

def E (e : Expr) (g : Env → W D) : Prop := PE X e (tE G X Wx g)
def EO (e : Expr) (g : Env → W (List D)) : Prop := PE X e (tO G X Wx g)
def T (e : Expr) (g : Env → W Bool) : Prop := PT X e (tT G X Wx g)
def A (es : List Expr) (g : Env → W (List D)) : Prop := PA X es (tAr G X Wx g)

/-- how a statement ends -/
inductive Out where
  | nx (ρ : Env) | rt (d : D) (ρ : Env) | bk (ρ : Env) | ct (ρ : Env)
def GlS (c : C) (H : Hp) (P : Out → Nt → Prop) (Dn : Ends) : Prop :=
  (∀ ρ' k σ' S' H', P (.nx ρ') k → Grow c.S S' H H' → SI G X.K (c.to S') σ' H' ρ' k → Dn.nx σ' H') ∧
  (∀ d k v σ' ρ' S' H', P (.rt d ρ') k → Grow c.S S' H H' → SI G X.K (c.to S') σ' H' ρ' k → Rep X.K S' H' d v → Dn.rt v H') ∧
  (∀ ρ' k σ' S' H', P (.bk ρ') k → Grow c.S S' H H' → SI G X.K (c.to S') σ' H' ρ' k → Dn.bk σ' H') ∧
  ∀ ρ' k σ' S' H', P (.ct ρ') k → Grow c.S S' H H' → SI G X.K (c.to S') σ' H' ρ' k → Dn.ct σ' H'
def tS (g : Env → W Out) : TS := fun Dn σ H => ∃ c ρ n P PX, SI G X.K c σ H ρ n ∧ g ρ n P PX ∧ GlS G X c H P Dn ∧ OKs G X Wx c H PX
def St1 (s : Stmt) (g : Env → W Out) : Prop := PS X s (tS G X Wx g)
end

section
variable {G : PenK} {X : Cx} {Wx : WX} {c : C} {σ : L2.St} {ρ : Env} {H H' : Hp} {n k : Nt} {S' : Addr → Prop}
theorem Gl1.grow {P : D → Nt → Prop} {Q : VK} (h : Gl1 G X c σ ρ H P Q) (g : Grow c.S S' H H') : Gl1 G X (c.to S') σ ρ H' P Q :=
  fun d k v S2 H2 p g2 I r => h d k v S2 H2 p (g.trans g2) I r
theorem GlO.grow {P : List D → Nt → Prop} {Q : VK} (h : GlO G X c σ ρ H P Q) (g : Grow c.S S' H H') : GlO G X (c.to S') σ ρ H' P Q :=
  fun d k v vs S2 H2 p g2 I r z q f => h d k v vs S2 H2 p (g.trans g2) I r z q f
theorem GlB.grow {P : Bool → Nt → Prop} {Q : Bool → Hp → Prop} (h : GlB G X c σ ρ H P Q) (g : Grow c.S S' H H') : GlB G X (c.to S') σ ρ H' P Q :=
  fun d k S2 H2 p g2 I => h d k S2 H2 p (g.trans g2) I
theorem GlA.grow {P : List D → Nt → Prop} {Q : List V → Hp → Prop} (h : GlA G X c σ ρ H P Q) (g : Grow c.S S' H H') : GlA G X (c.to S') σ ρ H' P Q :=
  fun d k v S2 H2 p g2 I r => h d k v S2 H2 p (g.trans g2) I r
theorem OKx.grow {PX : Exc → Nt → Prop} (h : OKx G X Wx c σ ρ H PX) (g : Grow c.S S' H H') : OKx G X Wx (c.to S') σ ρ H' PX :=
  fun x k S2 H2 cl dd p g2 I r => h x k S2 H2 cl dd p (g.trans g2) I r
theorem OKs.grow {PX : Exc → Nt → Prop} (h : OKs G X Wx c H PX) (g : Grow c.S S' H H') : OKs G X Wx (c.to S') H' PX :=
  fun x k σ2 ρ2 S2 H2 cl dd p g2 I r => h x k σ2 ρ2 S2 H2 cl dd p (g.trans g2) I r
theorem OKs.x {PX : Exc → Nt → Prop} (h : OKs G X Wx c H PX) : OKx G X Wx c σ ρ H PX :=
  fun x k S2 H2 cl dd p g I r => h x k σ ρ S2 H2 cl dd p g I r
theorem GlS.grow {P : Out → Nt → Prop} {Dn : Ends} (h : GlS G X c H P Dn) (g : Grow c.S S' H H') : GlS G X (c.to S') H' P Dn :=
  ⟨fun ρ k σ S2 H2 p g2 I => h.1 ρ k σ S2 H2 p (g.trans g2) I, fun d k v σ ρ S2 H2 p g2 I r => h.2.1 d k v σ ρ S2 H2 p (g.trans g2) I r,
    fun ρ k σ S2 H2 p g2 I => h.2.2.1 ρ k σ S2 H2 p (g.trans g2) I, fun ρ k σ S2 H2 p g2 I => h.2.2.2 ρ k σ S2 H2 p (g.trans g2) I⟩
theorem Gl1.at {P : D → Nt → Prop} {Q : VK} (h : Gl1 G X c σ ρ H P Q) {d : D} {v : V} (p : P d n) (I : SI G X.K c σ H ρ n) (r : Rep X.K c.S H d v) : Q v H :=
  h d n v c.S H p .refl I r
/-- a new object as the answer -/
theorem Gl1.new {P : D → Nt → Prop} {Q : VK} (h : Gl1 G X c σ ρ H P Q) {d : D} {a : Addr} {o : HO} (p : P d n) (I : SI G X.K c σ H ρ n) (hp : H a = none)
    (r : Grow c.S (fun b => c.S b ∨ b = a) H (upd H a o) → Rep X.K (fun b => c.S b ∨ b = a) (upd H a o) d (.ref a)) : Q (.ref a) (upd H a o) := by
  obtain ⟨I', g⟩ := I.laid (o := o) hp
  exact h d n _ _ _ p g I' (r g)
theorem weakE {e : Expr} {t t' : TE} (h : PE X e t) (f : ∀ σ H Q, t' σ H Q → t σ H Q) : PE X e t' := ⟨fun pins s σ H Q I q => h.run pins s σ H Q I (f σ H Q q)⟩
theorem weakT {e : Expr} {t t' : TT} (h : PT X e t) (f : ∀ σ H Q, t' σ H Q → t σ H Q) : PT X e t' := ⟨fun pins s σ H Q I q => h.run pins s σ H Q I (f σ H Q q)⟩
theorem weakW {e : Expr} {t t' : TT} (h : PW X e t) (f : ∀ σ H Q, t' σ H Q → t σ H Q) : PW X e t' := ⟨fun wh pins s σ H Q I q => h.run wh pins s σ H Q I (f σ H Q q)⟩
theorem weakA {es : List Expr} {t t' : TA} (h : PA X es t) (f : ∀ σ H Q, t' σ H Q → t σ H Q) : PA X es t' := ⟨fun pos pins s σ H Q I q => h.run pos pins s σ H Q I (f σ H Q q)⟩
theorem weakS {s : Stmt} {t t' : TS} (h : PS X s t) (f : ∀ D σ H, t' D σ H → t D σ H) : PS X s t' := ⟨fun pins s σ H D I q => h.run pins s σ H D I (f D σ H q)⟩
theorem weakSs {s : List Stmt} {t t' : TS} (h : PSs X s t) (f : ∀ D σ H, t' D σ H → t D σ H) : PSs X s t' := ⟨fun pins s σ H D I q => h.run pins s σ H D I (f D σ H q)⟩
/-- the parts in a row -/
theorem tE.bnd {α : Type} {g : Env → W D} {f : D → W α} {P : α → Nt → Prop} {PX : Exc → Nt → Prop} {Q : VK} (I : SI G X.K c σ H ρ n) (h : PL.bnd (g ρ) f n P PX) (hx : OKx G X Wx c σ ρ H PX)
    (hk : ∀ d k v S' H', f d k P PX → Grow c.S S' H H' → SI G X.K (c.to S') σ H' ρ k → OKx G X Wx (c.to S') σ ρ H' PX → Rep X.K S' H' d v → Q v H') : tE G X Wx g σ H Q :=
  ⟨c, ρ, n, fun d k => f d k P PX, PX, I, h, fun d k v S' H' p g I' r => hk d k v S' H' p g I' (hx.grow g) r, hx⟩
theorem tO.bnd {α : Type} {g : Env → W (List D)} {f : List D → W α} {P : α → Nt → Prop} {PX : Exc → Nt → Prop} {Q : VK} (I : SI G X.K c σ H ρ n) (h : PL.bnd (g ρ) f n P PX) (hx : OKx G X Wx c σ ρ H PX)
    (hk : ∀ xs k a vs S' H', f xs k P PX → Grow c.S S' H H' → SI G X.K (c.to S') σ H' ρ k → OKx G X Wx (c.to S') σ ρ H' PX → H' a = some (.lst vs) → xs.length ≤ sizeLine → Reps X.K S' H' xs vs → FreshAt (c.to S') k σ ρ a → Q (.ref a) H') : tO G X Wx g σ H Q :=
  ⟨c, ρ, n, fun d k => f d k P PX, PX, I, h, fun d k v vs S' H' p g I' r z q fr => hk d k v vs S' H' p g I' (hx.grow g) r z q fr, hx⟩
theorem tT.bnd {α : Type} {g : Env → W Bool} {f : Bool → W α} {P : α → Nt → Prop} {PX : Exc → Nt → Prop} {Q : Bool → Hp → Prop} (I : SI G X.K c σ H ρ n) (h : PL.bnd (g ρ) f n P PX) (hx : OKx G X Wx c σ ρ H PX)
    (hk : ∀ d k S' H', f d k P PX → Grow c.S S' H H' → SI G X.K (c.to S') σ H' ρ k → OKx G X Wx (c.to S') σ ρ H' PX → Q d H') : tT G X Wx g σ H Q :=
  ⟨c, ρ, n, fun d k => f d k P PX, PX, I, h, fun d k S' H' p g I' => hk d k S' H' p g I' (hx.grow g), hx⟩
theorem tAr.bnd {α : Type} {g : Env → W (List D)} {f : List D → W α} {P : α → Nt → Prop} {PX : Exc → Nt → Prop} {Q : List V → Hp → Prop} (I : SI G X.K c σ H ρ n) (h : PL.bnd (g ρ) f n P PX) (hx : OKx G X Wx c σ ρ H PX)
    (hk : ∀ d k v S' H', f d k P PX → Grow c.S S' H H' → SI G X.K (c.to S') σ H' ρ k → OKx G X Wx (c.to S') σ ρ H' PX → Reps X.K S' H' d v → Q v H') : tAr G X Wx g σ H Q :=
  ⟨c, ρ, n, fun d k => f d k P PX, PX, I, h, fun d k v S' H' p g I' r => hk d k v S' H' p g I' (hx.grow g) r, hx⟩

end
section
variable {G : PenK} {K : PySem.W.Frag} {c : C} {σ : L2.St} {ρ : Env} {H H' : Hp} {n k : Nt} {S' : Addr → Prop}
/-- a name takes data -/
theorem SI.set {i : Nat} {d : D} {v : V} (I : SI G K c σ H ρ n) (r : Rep K c.S H d v) : SI G K c (σ.set i (some v)) H (ρ.set i (.d d)) n := by
  have key : ∀ j sv, (ρ.set i (.d d))[j]? = some sv → (j = i ∧ sv = .d d ∧ slot (σ.set i (some v)) j = some v) ∨ (i ≠ j ∧ ρ[j]? = some sv ∧ slot (σ.set i (some v)) j = slot σ j) := fun j sv e => by
    by_cases h : i = j
    · subst h
      have hl : i < ρ.length := by
        have := (List.getElem?_eq_some_iff.mp e).1
        rwa [List.length_set] at this
      rw [List.getElem?_set_self hl] at e
      exact .inl ⟨rfl, (Option.some.inj e).symm, slot_set_same (I.len ▸ hl)⟩
    · rw [List.getElem?_set_ne h] at e
      exact .inr ⟨h, e, slot_set_ne h⟩
  refine ⟨by rw [List.length_set, List.length_set, I.len], fun j sv e => ?_, fun j sv a e ho es => ?_, fun j k sv sv' a hn e e' ho ho' es es' => ?_, I.dom, I.fr, I.pen, I.no, I.tab, I.mu, I.mu0, I.mz⟩
  · rcases key j sv e with ⟨_, rfl, h⟩ | ⟨_, h, h2⟩
    · exact ⟨v, h, r⟩
    · rw [h2]; exact I.slots j sv h
  · rcases key j sv e with ⟨_, rfl, h⟩ | ⟨_, h, h2⟩
    · cases ho
    · exact I.own j sv a h ho (h2 ▸ es)
  · rcases key j sv e with ⟨_, rfl, h⟩ | ⟨_, h, h2⟩
    · cases ho
    · rcases key k sv' e' with ⟨_, rfl, h⟩ | ⟨_, h', h2'⟩
      · cases ho'
      · exact I.apart j k sv sv' a hn h h' ho ho' (h2 ▸ es) (h2' ▸ es')
/-- a name takes a new list -/
theorem SI.setO {i : Nat} {xs : List D} {a : Addr} {vs : List V} (I : SI G K c σ H ρ n) (e1 : H a = some (.lst vs)) (z : xs.length ≤ sizeLine) (r : Reps K c.S H xs vs) (y : Young c n a)
    (f : ∀ j sv, i ≠ j → ρ[j]? = some sv → sv.isOwn = true → slot σ j ≠ some (.ref a)) : SI G K c (σ.set i (some (.ref a))) H (ρ.set i (.own xs)) n := by
  have key : ∀ j sv, (ρ.set i (.own xs))[j]? = some sv → (j = i ∧ sv = .own xs ∧ slot (σ.set i (some (.ref a))) j = some (.ref a)) ∨ (i ≠ j ∧ ρ[j]? = some sv ∧ slot (σ.set i (some (.ref a))) j = slot σ j) := fun j sv e => by
    by_cases h : i = j
    · subst h
      have hl : i < ρ.length := by
        have := (List.getElem?_eq_some_iff.mp e).1
        rwa [List.length_set] at this
      rw [List.getElem?_set_self hl] at e
      exact .inl ⟨rfl, (Option.some.inj e).symm, slot_set_same (I.len ▸ hl)⟩
    · rw [List.getElem?_set_ne h] at e
      exact .inr ⟨h, e, slot_set_ne h⟩
  refine ⟨by rw [List.length_set, List.length_set, I.len], fun j sv e => ?_, fun j sv b e ho es => ?_, fun j k sv sv' b hn e e' ho ho' es es' => ?_, I.dom, I.fr, I.pen, I.no, I.tab, I.mu, I.mu0, I.mz⟩
  · rcases key j sv e with ⟨_, rfl, h⟩ | ⟨_, h, h2⟩
    · exact ⟨a, vs, h, e1, z, r⟩
    · rw [h2]; exact I.slots j sv h
  · rcases key j sv e with ⟨_, rfl, h⟩ | ⟨_, h, h2⟩
    · rw [h] at es; cases es; exact y
    · exact I.own j sv b h ho (h2 ▸ es)
  · rcases key j sv e with ⟨h0, rfl, h⟩ | ⟨_, h, h2⟩
    · rcases key k sv' e' with ⟨h0', rfl, h'⟩ | ⟨_, h', h2'⟩
      · exact hn (h0.trans h0'.symm)
      · rw [h] at es; cases es
        exact f k sv' (h0 ▸ hn) h' ho' (h2' ▸ es')
    · rcases key k sv' e' with ⟨h0', rfl, h'⟩ | ⟨_, h', h2'⟩
      · rw [h'] at es'; cases es'
        exact f j sv (fun q => hn (q ▸ h0'.symm)) h ho (h2 ▸ es)
      · exact I.apart j k sv sv' b hn h h' ho ho' (h2 ▸ es) (h2' ▸ es')
/-- an address comes among those that stay -/
theorem SI.adopt {a : Addr} (I : SI G K c σ H ρ n) (y : FreshAt c n σ ρ a) (h : H a ≠ none) : SI G K (c.to fun b => c.S b ∨ b = a) σ H ρ n ∧ Grow c.S (fun b => c.S b ∨ b = a) H H := by
  have g : Grow c.S (fun b => c.S b ∨ b = a) H H := ⟨fun _ h => .inl h, fun _ _ => rfl⟩
  refine ⟨⟨I.len, fun i sv e => (I.slots i sv e).grow g fun _ _ _ => rfl, fun i sv b e ho es => ?_, I.apart, fun b h' => ?_, I.fr, fun p e => ?_, fun b h => ⟨fun z => z.elim (I.no b h).1 fun z => (I.no b h).2 (z ▸ y.1.2.1), (I.no b h).2⟩, fun q e => ⟨(I.tab q e).1, (I.tab q e).2.grow g rfl⟩, fun b nd e => ⟨(I.mu b nd e).1.grow g rfl, fun z => Or.elim z (I.mu b nd e).2.1 fun z => (by rw [z, y.1.2.2] at e; cases e), (I.mu b nd e).2.2⟩, I.mu0, I.mz⟩, g⟩
  · obtain ⟨h1, h2⟩ := I.own i sv b e ho es
    exact ⟨fun z => z.elim h1 fun z => y.2 i sv e ho (z ▸ es), h2⟩
  · rcases h' with h' | rfl
    · exact I.dom b h'
    · exact h
  · obtain ⟨h1, h2, h3, h4, h5⟩ := I.pen p e
    exact ⟨h1, fun z => z.elim h2 fun z => h4 (z ▸ y.1.2.1), fun z => z.elim h3 fun z => h5 (z ▸ y.1.2.1), h4, h5⟩

/-! ### all that is one's own, lent -/
def ownS (ρ : Env) (σ : L2.St) (a : Addr) : Prop := ∃ i sv, ρ[i]? = some sv ∧ sv.isOwn = true ∧ slot σ i = some (.ref a)
theorem bor_get {i : Nat} {sv : SV} (h : (bor ρ)[i]? = some sv) : ∃ s0, ρ[i]? = some s0 ∧ sv = s0.bor := by
  unfold bor at h
  rw [List.getElem?_map] at h
  cases e : ρ[i]? with
  | none => rw [e] at h; cases h
  | some s0 => rw [e] at h; exact ⟨s0, rfl, (Option.some.inj h).symm⟩
theorem bor_own {s : SV} : s.bor.isOwn = false := by cases s <;> rfl
theorem SI.own_there (I : SI G K c σ H ρ n) {a : Addr} (h : ownS ρ σ a) : H a ≠ none := by
  obtain ⟨i, sv, e, ho, es⟩ := h
  have q := I.slots i sv e
  cases sv with
  | own xs => obtain ⟨b, vs, e1, r, _⟩ := q; rw [e1] at es; cases es; rw [r]; exact fun z => nomatch z
  | ownK kvs => obtain ⟨b, vs, e1, r, _⟩ := q; rw [e1] at es; cases es; rw [r]; exact fun z => nomatch z
  | un => cases ho
  | d _ => cases ho
  | pen => cases ho
  | exc _ => cases ho
  | lam _ _ _ _ _ => cases ho
  | o _ => cases ho
theorem SI.lend (I : SI G K c σ H ρ n) : SI G K (c.to fun a => c.S a ∨ ownS ρ σ a) σ H (bor ρ) n ∧ Grow c.S (fun a => c.S a ∨ ownS ρ σ a) H H := by
  have g : Grow c.S (fun a => c.S a ∨ ownS ρ σ a) H H := ⟨fun _ h => .inl h, fun _ _ => rfl⟩
  refine ⟨⟨by unfold bor; rw [List.length_map, I.len], fun i sv e => ?_, fun i sv a e ho => ?_, fun i j sv sv' a _ e _ ho => ?_, fun a h => h.elim (I.dom a) I.own_there, I.fr, fun p e => ?_, fun a h => ⟨fun z => z.elim (I.no a h).1 fun ⟨i, sv, e, ho, es⟩ => (I.no a h).2 (I.own i sv a e ho es).2.1, (I.no a h).2⟩, fun q e => ⟨(I.tab q e).1, (I.tab q e).2.grow g rfl⟩, fun a nd e => ⟨(I.mu a nd e).1.grow g rfl, fun z => Or.elim z (I.mu a nd e).2.1 fun ⟨i, sv, e1, ho, es⟩ => (by rw [(I.own i sv a e1 ho es).2.2] at e; cases e), (I.mu a nd e).2.2⟩, I.mu0, I.mz⟩, g⟩
  · obtain ⟨s0, e0, rfl⟩ := bor_get e
    have q := (I.slots i s0 e0).grow g fun _ _ _ => rfl
    have q0 := I.slots i s0 e0
    cases s0 with
    | own xs => obtain ⟨b, vs, e1, r, z, q⟩ := q; exact ⟨.ref b, e1, b, vs, rfl, ⟨.inr ⟨i, _, e0, rfl, e1⟩, r⟩, z, q⟩
    | ownK kvs => obtain ⟨b, vs, e1, r, q⟩ := q; exact ⟨.ref b, e1, b, vs, rfl, ⟨.inr ⟨i, _, e0, rfl, e1⟩, .inl r⟩, q⟩
    | un => trivial
    | d _ => exact q
    | pen => exact q
    | exc _ => exact q
    | lam _ _ _ _ _ => exact q
    | o _ => exact q
  · obtain ⟨s0, _, rfl⟩ := bor_get e
    rw [bor_own] at ho; cases ho
  · obtain ⟨s0, _, rfl⟩ := bor_get e
    rw [bor_own] at ho; cases ho
  · obtain ⟨h1, h2, h3, h4, h5⟩ := I.pen p e
    have no : ∀ b, c.H0 b ≠ none → ¬ ownS ρ σ b := fun b hb ⟨i, sv, e, ho, es⟩ => hb (I.own i sv b e ho es).2.1
    exact ⟨h1, fun z => z.elim h2 (no _ h4), fun z => z.elim h3 (no _ h5), h4, h5⟩
/-- and given back -/
theorem SI.back {S' : Addr → Prop} (I : SI G K c σ H ρ n) (g : Grow (fun a => c.S a ∨ ownS ρ σ a) S' H H') (J : SI G K (c.to S') σ H' (bor ρ) k) :
    SI G K (c.to fun a => S' a ∧ ¬ ownS ρ σ a) σ H' ρ k ∧ Grow c.S (fun a => S' a ∧ ¬ ownS ρ σ a) H H' := by
  have no : ∀ a, c.S a → ¬ ownS ρ σ a := fun a h ⟨i, sv, e, ho, es⟩ => (I.own i sv a e ho es).1 h
  have g2 : Grow c.S (fun a => S' a ∧ ¬ ownS ρ σ a) H H' := ⟨fun a h => ⟨g.sub a (.inl h), no a h⟩, fun a h => g.eq a (.inl h)⟩
  refine ⟨⟨I.len, fun i sv e => (I.slots i sv e).grow g2 fun a ea ho => g.eq a (.inr ⟨i, sv, e, ho, ea⟩), fun i sv a e ho es => ⟨fun z => z.2 ⟨i, sv, e, ho, es⟩, (I.own i sv a e ho es).2.1, ?_⟩, I.apart, fun a h => J.dom a h.1, J.fr, fun p e => ?_, fun a h => ⟨fun z => (J.no a h).1 z.1, (J.no a h).2⟩, fun q e => ⟨(J.tab q e).1, ?_⟩, fun a nd e => ?_, J.mu0, J.mz⟩, g2⟩
  · cases q : k.μ a with
    | none => rfl
    | some nd =>
      have hS := J.muS (by rw [q]; exact fun z => nomatch z)
      exact absurd (g.sub a (.inr ⟨i, sv, e, ho, es⟩)) hS.1
  · obtain ⟨h1, h2, h3, h4, h5⟩ := J.pen p e
    exact ⟨h1, fun z => h2 z.1, fun z => h3 z.1, h4, h5⟩
  · obtain ⟨ps, h1, h2, h3⟩ := (J.tab q e).2
    refine ⟨ps, h1, h2, fun pos cv z => ?_⟩
    obtain ⟨c', e1, e2, e3⟩ := h3 pos cv z
    refine ⟨c', e1, ⟨e2, fun ⟨i, sv, k1, k2, k3⟩ => ?_⟩, e3⟩
    have hh : H' c' = H c' := g.eq c' (.inr ⟨i, sv, k1, k2, k3⟩)
    have q := I.slots i sv k1
    rw [e3] at hh
    cases sv with
    | own xs => obtain ⟨b, vs, u1, r, _⟩ := q; rw [u1] at k3; cases k3; rw [r] at hh; cases hh
    | ownK kvs => obtain ⟨b, vs, u1, r, _⟩ := q; rw [u1] at k3; cases k3; rw [r] at hh; cases hh
    | _ => cases k2
  · obtain ⟨m1, m2, m3, m4⟩ := J.mu a nd e
    exact ⟨m1.move rfl, fun z => m2 z.1, m3, m4⟩
end
end PL

/-! New tuples that are told by their very objects: none of them has a dict of its own. -/
namespace PL
open PySem PySem.Spec PyProof.Rows L2
/-- a new tuple -/
def NewT (H : Hp) (ys : List V) (Q : VK) : Prop := ∀ p o, H p = none → o.dict = none → Q (.ref p) (upd H p (.frz o (.tup ys)))
section
variable {X : Cx} {pins : List (Addr × Obj)} {σ : L2.St} {H : Hp} {s : Shared}
theorem newT {ys : List V} {its : List Value} {Q : VK} {n : Nat} (I : Inv X pins σ H s) (r : Vals ys its) (hz : ys.length ≤ sizeLine) (q : NewT H ys Q) : EP X pins σ Q (.ref s.heap.objs.size) { s with heap := s.heap.push { cls := .type "tuple", data := .seq its.toArray n } } :=
  ⟨.ref s.heap.objs.size, _, I.laid (t' := s.toks) (o := .frz { cls := .type "tuple", data := .seq its.toArray n } (.tup ys)) (fun b u e => Heap.get?_push_of_some _ e) (Nat.le_refl _) ⟨Heap.get?_push_size _ rfl, hz, its, r, ⟨_, Heap.get?_push_size _ rfl, rfl, _, rfl⟩⟩, rfl, q _ _ (I.hok.fresh (Nat.le_refl _)) rfl⟩
def tTupZ (t : TA) : TE := fun σ H Q => t σ H fun xs H1 => xs.length ≤ sizeLine ∧ NewT H1 xs Q
theorem pe_tupZ {es : List Expr} {x1 : Nat} {pos : Pos} {t : TA} (h : PA X es t) : PE X (.Tuple es x1 pos) (tTupZ t) := by
  refine ⟨fun pins s σ H Q I hq => ?_⟩
  exact wpAny_Tuple_spliced (thn (h.run pos pins s σ H _ I hq) fun us s1 ⟨xs, H1, I1, r, z, q⟩ => ⟨by rw [← r.length]; exact z, newT I1 r z q⟩)
def rCatZ (K : PySem.W.Frag) : R2 := fun x y H Q => ∃ a b xs ys, x = .ref a ∧ y = .ref b ∧ SqT K H a xs ∧ SqT K H b ys ∧ xs.length + ys.length ≤ sizeLine ∧
  (xs = [] → Q (.ref b) H) ∧ (xs ≠ [] → ys = [] → Q (.ref a) H) ∧ (xs ≠ [] → ys ≠ [] → NewT H (xs ++ ys) Q)
theorem op_catZ : OpR X (binaryOp .Add) (rCatZ X.K) := by
  intro pins s σ H x y v u Q I rx ry h
  obtain ⟨a, b, xs, ys, rfl, rfl, ha, hb, hz, q0, q1, q2⟩ := h
  cases rx
  cases ry
  obtain ⟨its, r1, p1, _⟩ := I.tuple ha
  obtain ⟨its2, r2, p2, _⟩ := I.tuple hb
  by_cases hx : xs = []
  · subst hx
    cases r1
    exact cat_tup0 p1 p2 ⟨.ref b, H, I, rfl, q0 rfl⟩
  · refine HT.cat_tup p1 p2 (fun z => hx (r1.nil_iff.mp z)) (fun z => ⟨.ref a, H, I, rfl, q1 hx (r2.nil_iff.mp z)⟩) (fun z => ?_) (by rw [← r1.length, ← r2.length]; exact hz)
    exact newT I (r1.append r2) (by rw [List.length_append]; exact hz) (q2 hx fun w => z (r2.nil_iff.mpr w))
def rSlZ (K : PySem.W.Frag) : V → Option Int → Option Int → Hp → VK → Prop := fun x lo hi H Q => ∃ a xs, x = .ref a ∧ SqT K H a xs ∧
  (HT.sIx xs.length 0 lo = 0 ∧ HT.sIx xs.length xs.length hi = xs.length → Q (.ref a) H) ∧ (¬ (HT.sIx xs.length 0 lo = 0 ∧ HT.sIx xs.length xs.length hi = xs.length) → NewT H (cutV xs lo hi) Q)
theorem sl_tupZ : SlR X (rSlZ X.K) := by
  intro pins s σ H x v vl vu lo hi sl Q I rx hs pl pu h
  obtain ⟨a, xs, rfl, hx, q1, q2⟩ := h
  cases rx
  obtain ⟨its, r, ht, hz⟩ := I.tuple hx
  have hlen : its.toArray.size = xs.length := by rw [List.size_toArray]; exact r.length.symm
  refine ⟨"tuple", _, PyProof.Rows.slot_tuple_getitem.lookup, ht.typeIs, ?_⟩
  by_cases hw : HT.sIx xs.length 0 lo = 0 ∧ HT.sIx xs.length xs.length hi = xs.length
  · exact getItem_tuple_whole ht hs pl pu (by rw [hlen]; exact hw) ⟨.ref a, H, I, rfl, q1 hw⟩
  · refine HT.getItem_tuple_cut ht hs pl pu (by rw [hlen]; exact hw) ?_ (by rw [hlen]; exact hz)
    rw [hlen]
    exact newT I ((r.drop (HT.sIx xs.length 0 lo)).take (HT.sIx xs.length xs.length hi - HT.sIx xs.length 0 lo)) (Nat.le_trans (cutV_length xs lo hi) hz) (q2 hw)
theorem call_tupleZ : CallR X (.type "tuple") (fun xs H Q => ∃ p ys, xs = [.ref p] ∧ ((SqL X.K H p ys ∧ NewT H ys Q) ∨ (SqT X.K H p ys ∧ Q (.ref p) H))) := by
  intro pins s σ H xs us Q I r h
  obtain ⟨p, ys, rfl, h⟩ := h
  obtain ⟨u, rfl, rx⟩ := vals1 r
  cases rx
  rcases h with ⟨hq, q⟩ | ⟨hq, q⟩
  · obtain ⟨its, r', pl, hz⟩ := I.list hq
    have hlen := r'.length
    refine call_tuple_list pl.isList (fun h' kp => ?_) (by simp only [List.size_toArray] <;> omega)
    have I1 : Inv X pins σ H { s with heap := h' } := I.kept (t' := s.toks) kp
    exact newT I1 r' hz q
  · obtain ⟨its, r', pl, hz⟩ := I.tuple hq
    exact call_tuple_same pl ⟨.ref p, H, I, rfl, q⟩
end
end PL

/-! The layer's expressions. -/
namespace PL
open PySem PySem.Spec L2

mutual
/-- data as the library's own data (a dict is not carried) -/
def py : D → PyData
  | .non => .none
  | .bl b => .bool b
  | .int i => .int i
  | .str x => .str x
  | .lst xs => .list (pys xs)
  | .tup xs => .tuple (pys xs)
  | .dic kvs => .dict (pyk kvs)
  | .ins _ _ _ => .dict [(.int (2 ^ 2000), .none)]
def pys : List D → List PyData
  | [] => []
  | x :: xs => py x :: pys xs
def pyk : List (Key × D) → List (PyData × PyData)
  | [] => []
  | (.inl i, x) :: r => (.int i, py x) :: pyk r
  | (.inr s, x) :: r => (.str s, py x) :: pyk r
end
def okD (d : D) : Bool := SeqAt.shaped (py d)

def nm (ρ : Env) (i : Nat) : W D := match ρ[i]? with
  | some (.d x) => ret x
  | _ => stuck
def addD : D → D → W D
  | .int i, .int j => ret (.int (i + j))
  | .str a, .str b => grd (a.length + b.length ≤ sizeLine) (ret (.str (a ++ b)))
  | .tup xs, .tup ys => grd (xs.length + ys.length ≤ sizeLine) (ret (.tup (xs ++ ys)))
  | .lst xs, .lst ys => grd (xs.length + ys.length ≤ sizeLine) (ret (.lst (xs ++ ys)))
  | _, _ => stuck
def subD : D → D → W D
  | .int i, .int j => ret (.int (i - j))
  | _, _ => stuck
def mulD : D → D → W D
  | .int i, .int j => grd (CMul i j) (ret (.int (i * j)))
  | _, _ => stuck
def modD : D → D → W D
  | .int i, .int j => grd (0 < j) (ret (.int (i % j)))
  | _, _ => stuck
def powD : D → D → W D
  | .int i, .int j => grd (CPow i j) (ret (.int (i ^ j.toNat)))
  | _, _ => stuck
def negD : D → W D
  | .int i => ret (.int (-i))
  | _ => stuck
/-- two lists of unlike length -/
def difL : D → D → Bool
  | .lst xs, .lst ys => xs.length != ys.length
  | _, _ => false
theorem pys_len : ∀ xs : List D, (pys xs).length = xs.length
  | [] => rfl
  | x :: xs => by show _ + 1 = _ + 1; rw [pys_len xs]
theorem eqvAll_len : ∀ xs ys : List PyData, xs.length ≠ ys.length → PyData.eqvAll xs ys = false
  | [], [], h => absurd rfl h
  | [], _ :: _, _ => by simp [PyData.eqvAll]
  | _ :: _, [], _ => by simp [PyData.eqvAll]
  | x :: xs, y :: ys, h => by
    have ih := eqvAll_len xs ys fun e => h (by show _ + 1 = _ + 1; rw [e])
    simp [PyData.eqvAll, ih]
theorem difL_eqv {a b : D} (h : difL a b = true) : ∃ xs ys, a = .lst xs ∧ b = .lst ys ∧ xs.length ≠ ys.length ∧ PyData.eqv (py a) (py b) = false := by
  unfold difL at h
  split at h
  · rename_i xs ys
    have hn : xs.length ≠ ys.length := by simpa using h
    refine ⟨xs, ys, rfl, rfl, hn, ?_⟩
    simp only [py, PyData.eqv]
    exact eqvAll_len _ _ (by rw [pys_len, pys_len]; exact hn)
  · cases h
def strS : D → D → Bool
  | .str _, .str _ => true
  | _, _ => false
def eqQ (a b : D) : Prop := (okD a = true ∧ okD b = true) ∨ difL a b = true ∨ strS a b = true
def eqD (a b : D) : W D := grd (eqQ a b) (ret (.bl (PyData.eqv (py a) (py b))))
def neD (a b : D) : W D := grd (eqQ a b) (ret (.bl (!PyData.eqv (py a) (py b))))
def ltD : D → D → W D
  | .int i, .int j => ret (.bl (decide (i < j)))
  | .str a, .str b => ret (.bl (decide (a.cps.toList < b.cps.toList)))
  | _, _ => stuck
def leD : D → D → W D
  | .int i, .int j => ret (.bl (decide (i ≤ j)))
  | .str a, .str b => ret (.bl (!decide (b.cps.toList < a.cps.toList)))
  | _, _ => stuck
def gtD : D → D → W D
  | .int i, .int j => ret (.bl (decide (j < i)))
  | .str a, .str b => ret (.bl (decide (b.cps.toList < a.cps.toList)))
  | _, _ => stuck
def isNone (a : D) : Bool := match a with
  | .non => true
  | _ => false
/-- a is None, a is not None -/
def isND (a b : D) : W D := match b with
  | .non => ret (.bl (isNone a))
  | .bl y => match a with
    | .bl x => ret (.bl (decide (x = y)))
    | _ => stuck
  | _ => stuck
def notND (a b : D) : W D := match b with
  | .non => ret (.bl (!isNone a))
  | .bl y => match a with
    | .bl x => ret (.bl (!decide (x = y)))
    | _ => stuck
  | _ => stuck
def scEq : D → D → Bool
  | .non, .non => true
  | .bl a, .bl b => a == b
  | .int i, .int j => i == j
  | .bl a, .int j => (if a then 1 else 0) == j
  | .int i, .bl b => i == (if b then 1 else 0)
  | .str x, .str y => x == y
  | _, _ => false

def tru : D → W Bool
  | .non => ret false
  | .bl b => ret b
  | .int i => ret (i != 0)
  | .str x => ret ((x.length : Int) != 0)
  | .lst xs => ret (!xs.isEmpty)
  | .tup xs => ret (!xs.isEmpty)
  | .dic _ => stuck
  | .ins _ _ _ => stuck
def items : D → W (List D)
  | .lst xs => ret xs
  | .tup xs => ret xs
  | _ => stuck
def ixD : D → D → W D
  | .lst xs, .int i => match atI xs i with
    | some x => ret x
    | none => stuck
  | .tup xs, .int i => match atI xs i with
    | some x => ret x
    | none => stuck
  | .str z, .int i => match atI z.cps.toList i with
    | some k => ret (.str ⟨#[k]⟩)
    | none => stuck
  | _, _ => stuck
def lenD : D → W D
  | .lst xs => ret (.int xs.length)
  | .tup xs => ret (.int xs.length)
  | .str x => ret (.int x.length)
  | .dic kvs => ret (.int kvs.length)
  | _ => stuck
def one (f : D → W D) : List D → W D
  | [x] => f x
  | _ => stuck
def two (f : D → D → W D) : List D → W D
  | [x, y] => f x y
  | _ => stuck
def cutD {α : Type} (xs : List α) (lo hi : Option Int) : List α := (xs.drop (HT.sIx xs.length 0 lo)).take (HT.sIx xs.length xs.length hi - HT.sIx xs.length 0 lo)

section
variable {G : PenK} {X : Cx} {Wx : WX}

/-! ### by values -/
def V1 (G : PenK) (X : Cx) (Wx : WX) (h : D → W D) (r : V → Hp → VK → Prop) : Prop :=
  ∀ c σ ρ H n P PX d v Q, SI G X.K c σ H ρ n → Rep X.K c.S H d v → h d n P PX → Gl1 G X c σ ρ H P Q → OKx G X Wx c σ ρ H PX → r v H Q
def V2 (G : PenK) (X : Cx) (Wx : WX) (h : D → D → W D) (r : R2) : Prop :=
  ∀ c σ ρ H n P PX d e v w Q, SI G X.K c σ H ρ n → Rep X.K c.S H d v → Rep X.K c.S H e w → h d e n P PX → Gl1 G X c σ ρ H P Q → OKx G X Wx c σ ρ H PX → r v w H Q
def VA (G : PenK) (X : Cx) (Wx : WX) (h : List D → W D) (r : List V → Hp → VK → Prop) : Prop :=
  ∀ c σ ρ H n P PX ds vs Q, SI G X.K c σ H ρ n → Reps X.K c.S H ds vs → h ds n P PX → Gl1 G X c σ ρ H P Q → OKx G X Wx c σ ρ H PX → r vs H Q
/-- a new list as the answer -/
theorem GlO.new {c : C} {σ : L2.St} {ρ : Env} {H : Hp} {n : Nt} {P : List D → Nt → Prop} {Q : VK} (h : GlO G X c σ ρ H P Q) {xs : List D} {vs : List V} {a : Addr} (p : P xs n) (I : SI G X.K c σ H ρ n) (hp : H a = none)
    (z : xs.length ≤ sizeLine) (r : Reps X.K c.S H xs vs) : Q (.ref a) (upd H a (.lst vs)) := by
  have ne : ∀ b, H b ≠ none → b ≠ a := fun b q e => q (e ▸ hp)
  have g : Grow c.S c.S H (upd H a (.lst vs)) := ⟨fun _ q => q, fun b q => upd_ne (ne b (I.dom b q))⟩
  have I' : SI G X.K c σ (upd H a (.lst vs)) ρ n := ⟨I.len, fun i sv e => (I.slots i sv e).grow g fun b eb ho => upd_ne (ne b (I.own_there ⟨i, sv, e, ho, eb⟩)), I.own, I.apart, fun b q => by rw [upd_ne (ne b (I.dom b q))]; exact I.dom b q,
    fun b u e q => by
      have := I.fr b u e q
      rw [upd_ne (ne b (by rw [this]; exact fun z => nomatch z))]
      exact this, fun q e => by
      obtain ⟨h1, h2, h3, h4, h5⟩ := I.pen q e
      obtain ⟨k1, k2⟩ := G.there h1
      exact ⟨G.dep h1 (upd_ne (ne _ k1)) (upd_ne (ne _ k2)), h2, h3, h4, h5⟩, I.no, fun q e => ⟨(I.tab q e).1, (I.tab q e).2.grow g (upd_ne (ne _ (I.tabN e).2.2))⟩, fun b nd e => ⟨(I.mu b nd e).1.grow g (upd_ne (ne _ (I.mu b nd e).1.there)), (I.mu b nd e).2⟩, I.mu0, I.mz⟩
  exact h xs n a vs c.S _ p g I' upd_same z (Reps.grow g _ _ r) ⟨⟨fun q => I.dom a q hp, I.freeOld hp, I.freeM hp⟩, fun i sv e ho es => I.own_there ⟨i, sv, e, ho, es⟩ hp⟩

/-- a new list may stay -/
theorem EO.e {e : Expr} {g : Env → W (List D)} (h : EO G X Wx e g) : E G X Wx e (fun ρ => bnd (g ρ) fun xs => ret (.lst xs)) :=
  weakE h fun σ H Q ⟨c, ρ, n, P, PX, I, q, hg, hx⟩ => tO.bnd I q hx fun xs k a vs S' H' p g I' _ e z r f => by
    obtain ⟨I2, g2⟩ := I'.adopt f (by rw [e]; exact fun z => nomatch z)
    exact hg (.lst xs) k (.ref a) _ H' p (g.trans g2) I2 ⟨a, vs, rfl, ⟨.inr rfl, e⟩, z, Reps.grow g2 _ _ r⟩

/-! ### names, constants -/
theorem e_nm (i : Nat) {x : Str} {pos : Pos} (hN : X.N[i]? = some x := by rfl) (hv : Vis X.env.scope x := by first | exact Or.inl rfl | exact Or.inr (Or.inl rfl) | exact Or.inr (Or.inr rfl)) (hd : (x == ("__debug__" : Str)) = false := by decide)
    (hcd : (x == ("__classdict__" : Str)) = false := by decide) : E G X Wx (.Name x pos) (fun ρ => nm ρ i) :=
  weakE (pe_var hN hv hd hcd) fun σ H Q ⟨c, ρ, n, P, PX, I, q, hg, hx⟩ => by
    have q : nm ρ i n P PX := q
    unfold nm at q
    cases e : ρ[i]? with
    | none => rw [e] at q; exact q.elim
    | some sv =>
      rw [e] at q
      cases sv with
      | d x =>
        obtain ⟨v, e2, r⟩ := I.slots i _ e
        exact ⟨v, slot_some e2, hg.at q I r⟩
      | un => exact q.elim
      | own _ => exact q.elim
      | ownK _ => exact q.elim
      | pen => exact q.elim
      | exc _ => exact q.elim
      | lam _ _ _ _ _ => exact q.elim
      | o _ => exact q.elim
theorem e_cst {e : Expr} {v : V} {d : D} (h : PE X e (tC v)) (r : ∀ S H, Rep X.K S H d v) : E G X Wx e (fun _ => ret d) :=
  weakE h fun σ H Q ⟨c, ρ, n, P, PX, I, q, hg, hx⟩ => hg.at q I (r _ _)
theorem e_int {i : Int} {j pos} : E G X Wx (.Constant (.int i) j pos) (fun _ => ret (.int i)) := e_cst pe_int fun _ _ => rfl
theorem e_bl {b : Bool} {j pos} : E G X Wx (.Constant (.bool b) j pos) (fun _ => ret (.bl b)) := e_cst pe_bl fun _ _ => rfl
theorem e_non {j pos} : E G X Wx (.Constant .none j pos) (fun _ => ret .non) := e_cst pe_non fun _ _ => rfl
theorem e_str {x : Str} {j pos} (hz : x.length ≤ sizeLine := by decide +kernel) : E G X Wx (.Constant (.str x) j pos) (fun _ => ret (.str x)) := e_cst pe_str fun _ _ => ⟨rfl, hz⟩
/-- a constant of the module -/
theorem e_gs {x y : Str} {t : Tok} {pos : Pos} (hm : X.mg x = some (.str y t)) (hz : y.length ≤ sizeLine := by decide +kernel) (hg : Gl X x := by rfl) (hd : (x == ("__debug__" : Str)) = false := by decide) : E G X Wx (.Name x pos) (fun _ => ret (.str y)) :=
  e_cst (v := .str y) (pe_glob hg hm ⟨t, rfl⟩ hd) fun _ _ => ⟨rfl, hz⟩
theorem e_gi {x : Str} {i : Int} {t : Tok} {pos : Pos} (hm : X.mg x = some (.int i t)) (hg : Gl X x := by rfl) (hd : (x == ("__debug__" : Str)) = false := by decide) : E G X Wx (.Name x pos) (fun _ => ret (.int i)) :=
  e_cst (v := .int i) (pe_glob hg hm ⟨t, rfl⟩ hd) fun _ _ => rfl

/-! ### two parts, a rule by values -/
theorem two_parts {e : Expr} {a b : Expr} {ga gb : Env → W D} {h : D → D → W D} {r : R2} (v : V2 G X Wx h r) (ha : E G X Wx a ga) (hb : E G X Wx b gb)
    (he : PE X e (tOp r (tE G X Wx ga) (tE G X Wx gb))) : E G X Wx e (fun ρ => bnd (ga ρ) fun x => bnd (gb ρ) fun y => h x y) :=
  weakE he fun σ H Q ⟨c, ρ, n, P, PX, I, q, hg, hx⟩ => tE.bnd I q hx fun d k u S' H' p g I' hx' r' =>
    tE.bnd I' p hx' fun d2 k2 u2 S2 H2 p2 g2 I2 hx2 r2 => v _ σ ρ H2 k2 P PX d d2 u u2 Q I2 (Rep.grow g2 _ _ r') r2 p2 (hg.grow (g.trans g2)) hx2
theorem e_op {op : Operator} {a b : Expr} {pos : Pos} {ga gb : Env → W D} {h : D → D → W D} {r : R2} (o : OpR X (binaryOp op) r) (v : V2 G X Wx h r) (ha : E G X Wx a ga) (hb : E G X Wx b gb) :
    E G X Wx (.BinOp a op b pos) (fun ρ => bnd (ga ρ) fun x => bnd (gb ρ) fun y => h x y) := two_parts v ha hb (pe_op o ha hb)
theorem e_un {op : UnaryOp} {a : Expr} {pos : Pos} {ga : Env → W D} {h : D → W D} {r : V → Hp → VK → Prop} (o : UnR X (unaryOp op) r) (v : V1 G X Wx h r) (ha : E G X Wx a ga) :
    E G X Wx (.UnaryOp op a pos) (fun ρ => bnd (ga ρ) h) :=
  weakE (pe_un o ha) fun σ H Q ⟨c, ρ, n, P, PX, I, q, hg, hx⟩ => tE.bnd I q hx fun d k u S' H' p g I' hx' r' => v _ σ ρ H' k P PX d u Q I' r' p (hg.grow g) hx'
theorem e_cmpR {op : CmpOp} {a b : Expr} {pos : Pos} {ga gb : Env → W D} {h : D → D → W D} {r : R2} (o : OpR X (compareOp op) r) (v : V2 G X Wx h r) (ha : E G X Wx a ga) (hb : E G X Wx b gb) (hm : behindInMarks op b = false := by rfl) :
    E G X Wx (.Compare a [op] [b] pos) (fun ρ => bnd (ga ρ) fun x => bnd (gb ρ) fun y => h x y) := two_parts v ha hb (pe_cmpR o ha hb hm)

theorem v2_add : V2 G X Wx addD (fun x y H Q => (∃ i j, x = .int i ∧ y = .int j ∧ Q (.int (i + j)) H) ∨ (∃ i j, x = .str i ∧ y = .str j ∧ i.length + j.length ≤ sizeLine ∧ Q (.str (i ++ j)) H) ∨ rCatZ X.K x y H Q ∨ rCat x y H Q) := by
  intro c σ ρ H n P PX d e v w Q I rd re h hg hx
  cases d with
  | int i =>
    cases e with
    | int j => cases rd; cases re; exact .inl ⟨i, j, rfl, rfl, hg.at (d := .int (i + j)) h I rfl⟩
    | _ => exact h.elim
  | str a =>
    cases e with
    | str b =>
      obtain ⟨rfl, z1⟩ := rd
      obtain ⟨rfl, z2⟩ := re
      obtain ⟨z, h⟩ := h
      exact .inr (.inl ⟨a, b, rfl, rfl, z, hg.at (d := .str (a ++ b)) h I ⟨rfl, by rw [PySem.Str.length_append]; exact z⟩⟩)
    | _ => exact h.elim
  | tup xs =>
    cases e with
    | tup ys =>
      obtain ⟨z, h⟩ := h
      obtain ⟨a, vs, rfl, r1, z1, q1⟩ := id rd
      obtain ⟨b, ws, rfl, r2, z2, q2⟩ := id re
      have l1 := q1.len
      have l2 := q2.len
      refine .inr (.inr (.inl ⟨a, b, vs, ws, rfl, rfl, r1.sq, r2.sq, by omega, fun e => ?_, fun _ e => ?_, fun _ _ p o hp hd => ?_⟩))
      · have e' : xs = [] := by
          subst e
          exact List.eq_nil_of_length_eq_zero l1.symm
        subst e'
        exact hg.at h I re
      · have e' : ys = [] := by
          subst e
          exact List.eq_nil_of_length_eq_zero l2.symm
        subst e'
        rw [List.append_nil] at h
        exact hg.at h I rd
      · exact hg.new h I hp fun g => ⟨p, vs ++ ws, rfl, .inl ⟨.inr rfl, o, upd_same, hd⟩, by rw [List.length_append]; exact z, Reps.app (Reps.grow g _ _ q1) (Reps.grow g _ _ q2)⟩
    | _ => exact h.elim
  | lst xs =>
    cases e with
    | lst ys =>
      obtain ⟨z, h⟩ := h
      obtain ⟨a, vs, rfl, r1, z1, q1⟩ := rd
      obtain ⟨b, ws, rfl, r2, z2, q2⟩ := re
      have l1 := q1.len
      have l2 := q2.len
      exact .inr (.inr (.inr ⟨a, b, vs, ws, rfl, rfl, r1.2, r2.2, by omega, fun p hp => hg.new h I hp fun g => ⟨p, vs ++ ws, rfl, ⟨.inr rfl, upd_same⟩, by rw [List.length_append]; exact z, Reps.app (Reps.grow g _ _ q1) (Reps.grow g _ _ q2)⟩⟩))
    | _ => exact h.elim
  | _ => exact h.elim
theorem e_add {a b : Expr} {pos : Pos} {ga gb : Env → W D} (ha : E G X Wx a ga) (hb : E G X Wx b gb) : E G X Wx (.BinOp a .Add b pos) (fun ρ => bnd (ga ρ) fun x => bnd (gb ρ) fun y => addD x y) :=
  e_op (op_add.or (op_add_str.or (op_catZ.or op_cat))) v2_add ha hb
theorem v2_ints {h : D → D → W D} {C : Int → Int → Prop} {g : Int → Int → Int} (hh : ∀ d e n P PX, h d e n P PX → ∃ i j, d = .int i ∧ e = .int j ∧ C i j ∧ P (.int (g i j)) n) : V2 G X Wx h (rI C fun i j => .int (g i j)) := by
  intro c σ ρ H n P PX d e v w Q I rd re q hg hx
  obtain ⟨i, j, rfl, rfl, q1, q2⟩ := hh d e n P PX q
  cases rd; cases re
  exact ⟨i, j, rfl, rfl, q1, hg.at (d := .int (g i j)) q2 I rfl⟩
theorem e_sub {a b : Expr} {pos : Pos} {ga gb : Env → W D} (ha : E G X Wx a ga) (hb : E G X Wx b gb) : E G X Wx (.BinOp a .Sub b pos) (fun ρ => bnd (ga ρ) fun x => bnd (gb ρ) fun y => subD x y) :=
  e_op op_sub (by
    intro c σ ρ H n P PX d e v w Q I rd re q hg hx
    unfold subD at q
    split at q
    · cases rd; cases re; exact ⟨_, _, rfl, rfl, hg.at (d := .int _) q I rfl⟩
    · exact q.elim) ha hb
theorem e_mul {a b : Expr} {pos : Pos} {ga gb : Env → W D} (ha : E G X Wx a ga) (hb : E G X Wx b gb) : E G X Wx (.BinOp a .Mult b pos) (fun ρ => bnd (ga ρ) fun x => bnd (gb ρ) fun y => mulD x y) :=
  e_op op_mul (v2_ints fun d e n P PX q => by
    unfold mulD at q
    split at q
    · exact ⟨_, _, rfl, rfl, q.1, q.2⟩
    · exact q.elim) ha hb
theorem e_mod {a b : Expr} {pos : Pos} {ga gb : Env → W D} (ha : E G X Wx a ga) (hb : E G X Wx b gb) : E G X Wx (.BinOp a .Mod b pos) (fun ρ => bnd (ga ρ) fun x => bnd (gb ρ) fun y => modD x y) :=
  e_op op_mod (v2_ints (C := fun _ j => 0 < j) fun d e n P PX q => by
    unfold modD at q
    split at q
    · exact ⟨_, _, rfl, rfl, q.1, q.2⟩
    · exact q.elim) ha hb
theorem e_pow {a b : Expr} {pos : Pos} {ga gb : Env → W D} (ha : E G X Wx a ga) (hb : E G X Wx b gb) : E G X Wx (.BinOp a .Pow b pos) (fun ρ => bnd (ga ρ) fun x => bnd (gb ρ) fun y => powD x y) :=
  e_op op_pow (v2_ints fun d e n P PX q => by
    unfold powD at q
    split at q
    · exact ⟨_, _, rfl, rfl, q.1, q.2⟩
    · exact q.elim) ha hb
theorem e_neg {a : Expr} {pos : Pos} {ga : Env → W D} (ha : E G X Wx a ga) : E G X Wx (.UnaryOp .USub a pos) (fun ρ => bnd (ga ρ) negD) :=
  e_un un_neg (by
    intro c σ ρ H n P PX d v Q I rd q hg hx
    cases d with
    | int i => cases rd; exact ⟨i, rfl, hg.at (d := .int (-i)) q I rfl⟩
    | _ => exact q.elim) ha

/-! ### comparisons -/
mutual
theorem Rep.dp {K : PySem.W.Frag} {S : Addr → Prop} {H : Hp} : ∀ (d : D) (v : V), (py d).canLay0 = true → Rep K S H d v → Dp K H v (py d)
  | .non, _, _, h => by cases h; exact .non
  | .bl _, _, _, h => by cases h; exact .bl _
  | .int _, _, _, h => by cases h; exact .int _
  | .str _, _, _, h => by obtain ⟨rfl, _⟩ := h; exact .str _
  | .lst xs, _, l, h => by
    obtain ⟨a, vs, rfl, r, _, q⟩ := h
    exact .lst r.sq (Reps.dp xs vs (by simpa [py, PyData.canLay0] using l) q)
  | .tup xs, _, l, h => by
    obtain ⟨a, vs, rfl, r, _, q⟩ := h
    exact .tup r.sq (Reps.dp xs vs (by simpa [py, PyData.canLay0] using l) q)
  | .dic kvs, _, l, h => by simp [py, PyData.canLay0] at l
  | .ins _ _ _, _, l, h => by unfold py PyData.canLay0 at l; cases l
theorem Reps.dp {K : PySem.W.Frag} {S : Addr → Prop} {H : Hp} : ∀ (xs : List D) (vs : List V), PyData.canLayAll0 (pys xs) = true → Reps K S H xs vs → DpAll K H vs (pys xs)
  | [], _, _, h => by
    have e : _ = [] := h
    rw [e]
    exact .nil
  | x :: xs, _, l, h => by
    obtain ⟨v, ws, rfl, r, q⟩ := h
    have l' : (py x).canLay0 = true ∧ PyData.canLayAll0 (pys xs) = true := by simpa [pys, PyData.canLayAll0] using l
    exact .cons (Rep.dp x v l'.1 r) (Reps.dp xs ws l'.2 q)
end
def rLen (K : PySem.W.Frag) (b : Bool) : R2 := fun x y H Q => ∃ p q xs ys, x = .ref p ∧ y = .ref q ∧ SqL K H p xs ∧ SqL K H q ys ∧ xs.length ≠ ys.length ∧ Q (.bl b) H
theorem op_eqLen (hu : X.A.units + 64 < cLine) : OpR X (compareOp .Eq) (rLen X.K false) := by
  intro pins s σ H x y v u Q I rx ry ⟨p, q, xs, ys, e1, e2, h1, h2, hn, k⟩
  subst e1 e2
  cases rx
  cases ry
  obtain ⟨i1, r1, p1, _⟩ := I.list h1
  obtain ⟨i2, r2, p2, _⟩ := I.list h2
  exact SeqAt.eq_list_lengthsAt p1.isList p2.isList (by simp only [List.size_toArray, ← r1.length, ← r2.length]; simpa using hn) (by omega) ⟨.bl false, H, I, rfl, k⟩
theorem op_neLen (hu : X.A.units + 64 < cLine) : OpR X (compareOp .NotEq) (rLen X.K true) := by
  intro pins s σ H x y v u Q I rx ry ⟨p, q, xs, ys, e1, e2, h1, h2, hn, k⟩
  subst e1 e2
  cases rx
  cases ry
  obtain ⟨i1, r1, p1, _⟩ := I.list h1
  obtain ⟨i2, r2, p2, _⟩ := I.list h2
  exact SeqAt.RcNeAt.lists_lengths p1.isList p2.isList (by simp only [List.size_toArray, ← r1.length, ← r2.length]; simpa using hn) (by omega) _ _ _ _ ⟨.bl true, H, I, rfl, k⟩
theorem Rep.len_ne {K : PySem.W.Frag} {S : Addr → Prop} {H : Hp} {xs ys : List D} {v w : V} {b : Bool} {Q : VK} (h : xs.length ≠ ys.length) (rd : Rep K S H (.lst xs) v) (re : Rep K S H (.lst ys) w) (k : Q (.bl b) H) : rLen K b v w H Q := by
  obtain ⟨p, vs, rfl, r1, _, q1⟩ := rd
  obtain ⟨q, ws, rfl, r2, _, q2⟩ := re
  exact ⟨p, q, vs, ws, rfl, rfl, r1.sq, r2.sq, by rw [q1.len, q2.len]; exact h, k⟩
theorem v2_eq : V2 G X Wx eqD (fun x y H Q => (rEqD X.K x y H Q ∨ rLen X.K false x y H Q) ∨ rEq x y H Q) := by
  intro c σ ρ H n P PX d e v w Q I rd re ⟨h, q⟩ hg hx
  rcases h with ⟨h1, h2⟩ | h | h
  · exact .inl (.inl ⟨py d, py e, Rep.dp d v (SeqAt.canLay_of_shaped h1) rd, Rep.dp e w (SeqAt.canLay_of_shaped h2) re, h1, h2, hg.at (d := .bl _) q I rfl⟩)
  · obtain ⟨xs, ys, rfl, rfl, hn, he⟩ := difL_eqv h
    refine .inl (.inr (Rep.len_ne hn rd re ?_))
    have q : P (.bl (PyData.eqv (py (.lst xs)) (py (.lst ys)))) n := q
    rw [he] at q
    exact hg.at (d := .bl false) q I rfl
  · unfold strS at h
    split at h
    · rename_i a b
      obtain ⟨rfl, _⟩ := rd
      obtain ⟨rfl, _⟩ := re
      have q : P (.bl (PyData.eqv (py (.str a)) (py (.str b)))) n := q
      have e2 : PyData.eqv (py (.str a)) (py (.str b)) = decide (V.str a = V.str b) := by
        simp only [py, PyData.eqv]
        by_cases z : a = b
        · subst z; simp
        · have z2 : ¬ V.str a = V.str b := fun k => z (by cases k; rfl)
          simp [z]
      rw [e2] at q
      exact .inr ⟨rfl, hg.at (d := .bl _) q I rfl⟩
    · cases h
theorem v2_ne : V2 G X Wx neD (fun x y H Q => (rNeD X.K x y H Q ∨ rLen X.K true x y H Q) ∨ rNe x y H Q) := by
  intro c σ ρ H n P PX d e v w Q I rd re ⟨h, q⟩ hg hx
  rcases h with ⟨h1, h2⟩ | h | h
  · exact .inl (.inl ⟨py d, py e, Rep.dp d v (SeqAt.canLay_of_shaped h1) rd, Rep.dp e w (SeqAt.canLay_of_shaped h2) re, h1, h2, hg.at (d := .bl _) q I rfl⟩)
  · obtain ⟨xs, ys, rfl, rfl, hn, he⟩ := difL_eqv h
    refine .inl (.inr (Rep.len_ne hn rd re ?_))
    have q : P (.bl (!PyData.eqv (py (.lst xs)) (py (.lst ys)))) n := q
    rw [he] at q
    exact hg.at (d := .bl true) q I rfl
  · unfold strS at h
    split at h
    · rename_i a b
      obtain ⟨rfl, _⟩ := rd
      obtain ⟨rfl, _⟩ := re
      have q : P (.bl (!PyData.eqv (py (.str a)) (py (.str b)))) n := q
      have e2 : PyData.eqv (py (.str a)) (py (.str b)) = decide (V.str a = V.str b) := by
        simp only [py, PyData.eqv]
        by_cases z : a = b
        · subst z; simp
        · have z2 : ¬ V.str a = V.str b := fun k => z (by cases k; rfl)
          simp [z]
      rw [e2] at q
      exact .inr ⟨rfl, hg.at (d := .bl _) q I rfl⟩
    · cases h
/-- ints or texts -/
theorem v2_ord {h : D → D → W D} {fi : Int → Int → Bool} {fs : Str → Str → Bool}
    (hh : ∀ d e n P PX, h d e n P PX → (∃ i j, d = .int i ∧ e = .int j ∧ P (.bl (fi i j)) n) ∨ ∃ i j, d = .str i ∧ e = .str j ∧ P (.bl (fs i j)) n) :
    V2 G X Wx h (fun x y H Q => (∃ i j, x = .int i ∧ y = .int j ∧ Q (.bl (fi i j)) H) ∨ ∃ i j, x = .str i ∧ y = .str j ∧ Q (.bl (fs i j)) H) := by
  intro c σ ρ H n P PX d e v w Q I rd re q hg hx
  rcases hh d e n P PX q with ⟨i, j, rfl, rfl, q2⟩ | ⟨i, j, rfl, rfl, q2⟩
  · cases rd; cases re; exact .inl ⟨i, j, rfl, rfl, hg.at (d := .bl (fi i j)) q2 I rfl⟩
  · obtain ⟨rfl, _⟩ := rd; obtain ⟨rfl, _⟩ := re; exact .inr ⟨i, j, rfl, rfl, hg.at (d := .bl (fs i j)) q2 I rfl⟩
theorem v2_lt : V2 G X Wx ltD (fun x y H Q => (∃ i j, x = .int i ∧ y = .int j ∧ Q (.bl (decide (i < j))) H) ∨ ∃ i j, x = .str i ∧ y = .str j ∧ Q (.bl (decide (i.cps.toList < j.cps.toList))) H) :=
  v2_ord (fi := fun i j => decide (i < j)) (fs := fun i j => decide (i.cps.toList < j.cps.toList)) fun d e n P PX q => by
    unfold ltD at q
    split at q
    · exact .inl ⟨_, _, rfl, rfl, q⟩
    · exact .inr ⟨_, _, rfl, rfl, q⟩
    · exact q.elim
theorem v2_le : V2 G X Wx leD (fun x y H Q => (∃ i j, x = .int i ∧ y = .int j ∧ Q (.bl (decide (i ≤ j))) H) ∨ ∃ i j, x = .str i ∧ y = .str j ∧ Q (.bl (!decide (j.cps.toList < i.cps.toList))) H) :=
  v2_ord (fi := fun i j => decide (i ≤ j)) (fs := fun i j => !decide (j.cps.toList < i.cps.toList)) fun d e n P PX q => by
    unfold leD at q
    split at q
    · exact .inl ⟨_, _, rfl, rfl, q⟩
    · exact .inr ⟨_, _, rfl, rfl, q⟩
    · exact q.elim
theorem v2_gt : V2 G X Wx gtD (fun x y H Q => (∃ i j, x = .int i ∧ y = .int j ∧ Q (.bl (decide (j < i))) H) ∨ ∃ i j, x = .str i ∧ y = .str j ∧ Q (.bl (decide (j.cps.toList < i.cps.toList))) H) :=
  v2_ord (fi := fun i j => decide (j < i)) (fs := fun i j => decide (j.cps.toList < i.cps.toList)) fun d e n P PX q => by
    unfold gtD at q
    split at q
    · exact .inl ⟨_, _, rfl, rfl, q⟩
    · exact .inr ⟨_, _, rfl, rfl, q⟩
    · exact q.elim
theorem Rep.isN {K : PySem.W.Frag} {S : Addr → Prop} {H : Hp} {d : D} {v : V} (r : Rep K S H d v) : decide (v = .non) = isNone d := by
  cases d with
  | non => cases r; rfl
  | bl _ => cases r; rfl
  | int _ => cases r; rfl
  | str _ => obtain ⟨rfl, _⟩ := r; rfl
  | lst _ => obtain ⟨_, _, rfl, _⟩ := r; rfl
  | tup _ => obtain ⟨_, _, rfl, _⟩ := r; rfl
  | dic _ => obtain ⟨_, _, rfl, _⟩ := r; rfl
  | ins _ _ _ => obtain ⟨_, _, _, _, rfl, _⟩ := r; rfl
theorem v2_is : V2 G X Wx isND (fun x y H Q => (y = .non ∧ Q (.bl (decide (x = .non))) H) ∨ rIsB x y H Q) := by
  intro c σ ρ H n P PX d e v w Q I rd re q hg hx
  cases e with
  | non => cases re; exact .inl ⟨rfl, by rw [rd.isN]; exact hg.at (d := .bl _) q I rfl⟩
  | bl y =>
    cases d with
    | bl x => cases re; cases rd; exact .inr ⟨x, y, rfl, rfl, hg.at (d := .bl _) q I rfl⟩
    | _ => exact q.elim
  | _ => exact q.elim
theorem v2_isnot : V2 G X Wx notND (fun x y H Q => (y = .non ∧ Q (.bl (!decide (x = .non))) H) ∨ rNotB x y H Q) := by
  intro c σ ρ H n P PX d e v w Q I rd re q hg hx
  cases e with
  | non => cases re; exact .inl ⟨rfl, by rw [rd.isN]; exact hg.at (d := .bl _) q I rfl⟩
  | bl y =>
    cases d with
    | bl x => cases re; cases rd; exact .inr ⟨x, y, rfl, rfl, hg.at (d := .bl _) q I rfl⟩
    | _ => exact q.elim
  | _ => exact q.elim
/-- a comparison's rule: operator, function over data -/
structure Cm (G : PenK) (X : Cx) (Wx : WX) (op : CmpOp) (h : D → D → W D) : Prop where
  ex : ∃ r, OpR X (compareOp op) r ∧ V2 G X Wx h r
theorem cm_eq (hu : X.A.units + 64 < cLine) : Cm G X Wx .Eq eqD := ⟨_, ((op_eqD hu).or (op_eqLen hu)).or op_eq, v2_eq⟩
theorem cm_ne (hu : X.A.units + 64 < cLine) : Cm G X Wx .NotEq neD := ⟨_, ((op_neD hu).or (op_neLen hu)).or op_ne, v2_ne⟩
theorem cm_lt : Cm G X Wx .Lt ltD := ⟨_, op_lt.or op_lt_str, v2_lt⟩
theorem cm_le : Cm G X Wx .LtE leD := ⟨_, op_le.or op_le_str, v2_le⟩
theorem cm_gt : Cm G X Wx .Gt gtD := ⟨_, op_gt.or op_gt_str, v2_gt⟩
theorem cm_is : Cm G X Wx .Is isND := ⟨_, op_isN.or op_isBl, v2_is⟩
theorem cm_isnot : Cm G X Wx .IsNot notND := ⟨_, op_notN.or op_notBl, v2_isnot⟩
theorem e_cmp {op : CmpOp} {a b : Expr} {pos : Pos} {ga gb : Env → W D} {h : D → D → W D} (m : Cm G X Wx op h) (ha : E G X Wx a ga) (hb : E G X Wx b gb) (hm : behindInMarks op b = false := by rfl) :
    E G X Wx (.Compare a [op] [b] pos) (fun ρ => bnd (ga ρ) fun x => bnd (gb ρ) fun y => h x y) := by
  obtain ⟨r, o, v⟩ := m.ex
  exact e_cmpR o v ha hb hm
def thenB (m : W D) (k : W D) : W D := bnd m fun z => match z with
  | .bl true => k
  | .bl false => ret (.bl false)
  | _ => stuck
def blB : D → W Bool
  | .bl b => ret b
  | _ => stuck
/-- a value's law as a test's -/
theorem tE_test {g : Env → W D} {σ : L2.St} {H : Hp} {Q : Bool → Hp → Prop} (h : tT G X Wx (fun ρ => bnd (g ρ) blB) σ H Q) : tE G X Wx g σ H (fun x H' => ∃ k, x = .bl k ∧ Q k H') := by
  obtain ⟨c, ρ, n, P, PX, I, q, hg, hx⟩ := h
  refine ⟨c, ρ, n, _, PX, I, q, fun d k v S' H' p g I' r => ?_, hx⟩
  cases d with
  | bl b => cases r; exact ⟨b, rfl, hg b k S' H' p g I'⟩
  | _ => exact p.elim
theorem tOp_law {ga gb : Env → W D} {h : D → D → W D} {r : R2} (v : V2 G X Wx h r) {σ : L2.St} {H : Hp} {Q : VK} (hh : tE G X Wx (fun ρ => bnd (ga ρ) fun x => bnd (gb ρ) fun y => h x y) σ H Q) : tOp r (tE G X Wx ga) (tE G X Wx gb) σ H Q := by
  obtain ⟨c, ρ, n, P, PX, I, q, hg, hx⟩ := hh
  exact tE.bnd I q hx fun d k u S' H' p g I' hx' r' =>
    tE.bnd I' p hx' fun d2 k2 u2 S2 H2 p2 g2 I2 hx2 r2 => v _ σ ρ H2 k2 P PX d d2 u u2 Q I2 (Rep.grow g2 _ _ r') r2 p2 (hg.grow (g.trans g2)) hx2
/-- a test a < b -/
theorem t_cmp {op : CmpOp} {a b : Expr} {pos : Pos} {ga gb : Env → W D} {h : D → D → W D} (m : Cm G X Wx op h) (ha : E G X Wx a ga) (hb : E G X Wx b gb) (hm : behindInMarks op b = false := by rfl) :
    T G X Wx (.Compare a [op] [b] pos) (fun ρ => bnd (bnd (ga ρ) fun x => bnd (gb ρ) fun y => h x y) blB) := by
  obtain ⟨r, o, v⟩ := m.ex
  exact weakT (pt_cmpR o ha hb hm) fun σ H Q q => tOp_law v (tE_test q)
theorem tChain_law {ga gb gd : Env → W D} {h h' : D → D → W D} {r r' : R2} (v : V2 G X Wx h r) (v' : V2 G X Wx h' r') {σ : L2.St} {H : Hp} {Q : VK} (hh : tE G X Wx (fun ρ => bnd (ga ρ) fun x => bnd (gb ρ) fun y => thenB (h x y) (bnd (gd ρ) fun z => h' y z)) σ H Q) : tChain r r' (tE G X Wx ga) (tE G X Wx gb) (tE G X Wx gd) σ H Q := by
  obtain ⟨c, ρ, n, P, PX, I, q, hg, hx⟩ := hh
  refine tE.bnd I q hx fun d1 k u S' H' p g I' hx' r1 =>
    tE.bnd I' p hx' fun d2 k2 u2 S2 H2 p2 g2 I2 hx2 r2 => v _ σ ρ H2 k2 (fun z k => (match z with
      | .bl true => bnd (gd ρ) fun z => h' d2 z
      | .bl false => ret (.bl false)
      | _ => stuck : W D) k P PX) PX d1 d2 u u2 _ I2 (Rep.grow g2 _ _ r1) r2 p2 (fun z k3 w S3 H3 p3 g3 I3 r3 => ?_) hx2
  cases z with
  | bl b =>
    cases r3
    cases b with
    | true => exact ⟨true, rfl, iteT (tE.bnd I3 p3 (hx2.grow g3) fun d4 k4 u4 S4 H4 p4 g4 I4 hx4 r4 => v' _ σ ρ H4 k4 P PX d2 d4 u2 u4 Q I4 (Rep.grow (g3.trans g4) _ _ r2) r4 p4 (hg.grow (g.trans (g2.trans (g3.trans g4)))) hx4)⟩
    | false => exact ⟨false, rfl, iteF ((hg.grow (g.trans (g2.trans g3))).at (d := .bl false) p3 I3 rfl)⟩
  | _ => exact p3.elim
/-- a < b < c -/
theorem e_chain {op op' : CmpOp} {a b d : Expr} {pos : Pos} {ga gb gd : Env → W D} {h h' : D → D → W D} (m : Cm G X Wx op h) (m' : Cm G X Wx op' h') (ha : E G X Wx a ga) (hb : E G X Wx b gb) (hd : E G X Wx d gd)
    (hm : lastMarks [op, op'] [b, d] = false := by with_unfolding_all rfl) :
    E G X Wx (.Compare a [op, op'] [b, d] pos) (fun ρ => bnd (ga ρ) fun x => bnd (gb ρ) fun y => thenB (h x y) (bnd (gd ρ) fun z => h' y z)) := by
  obtain ⟨r, o, v⟩ := m.ex
  obtain ⟨r', o', v'⟩ := m'.ex
  exact weakE (pe_chain o o' ha hb hd hm) fun σ H Q q => tChain_law v v' q
/-- a test a < b < c -/
theorem t_chain {op op' : CmpOp} {a b d : Expr} {pos : Pos} {ga gb gd : Env → W D} {h h' : D → D → W D} (m : Cm G X Wx op h) (m' : Cm G X Wx op' h') (ha : E G X Wx a ga) (hb : E G X Wx b gb) (hd : E G X Wx d gd)
    (hm : lastMarks [op, op'] [b, d] = false := by with_unfolding_all rfl) :
    T G X Wx (.Compare a [op, op'] [b, d] pos) (fun ρ => bnd (bnd (ga ρ) fun x => bnd (gb ρ) fun y => thenB (h x y) (bnd (gd ρ) fun z => h' y z)) blB) := by
  obtain ⟨r, o, v⟩ := m.ex
  obtain ⟨r', o', v'⟩ := m'.ex
  exact weakT (pt_chain o o' ha hb hd hm) fun σ H Q q => tChain_law v v' (tE_test q)
end
end PL

/-! The layer: truth, displays, subscripts, slices, arguments, built-ins. -/
namespace PL
open PySem PySem.Spec L2

section
variable {G : PenK} {X : Cx} {Wx : WX}

/-! ### truth -/
theorem Rep.tru {K : PySem.W.Frag} {S : Addr → Prop} {H : Hp} {d : D} {v : V} {n : Nt} {P : Bool → Nt → Prop} {PX : Exc → Nt → Prop} (r : Rep K S H d v) (q : PL.tru d n P PX) : ∃ b, TruV K v H b ∧ P b n := by
  cases d with
  | non => cases r; exact ⟨_, rfl, q⟩
  | bl _ => cases r; exact ⟨_, rfl, q⟩
  | int _ => cases r; exact ⟨_, rfl, q⟩
  | str _ => obtain ⟨rfl, z⟩ := r; exact ⟨_, ⟨z, rfl⟩, q⟩
  | lst xs =>
    obtain ⟨a, vs, rfl, r1, _, q1⟩ := r
    refine ⟨!xs.isEmpty, .inl ⟨vs, r1.sq, ?_⟩, q⟩
    have := q1.len
    cases xs <;> cases vs <;> first | rfl | cases this
  | tup xs =>
    obtain ⟨a, vs, rfl, r1, _, q1⟩ := r
    refine ⟨!xs.isEmpty, .inr (.inl ⟨vs, r1.sq, ?_⟩), q⟩
    have := q1.len
    cases xs <;> cases vs <;> first | rfl | cases this
  | dic kvs =>
    exact q.elim
  | ins _ _ _ => exact q.elim
theorem t_truth {e : Expr} {g : Env → W D} (h : E G X Wx e g) (he : ∀ whole, isTrue e X.env whole = (do let v ← whole; standAt e.pos; holding [v] (truthy v)) := by intro _; rfl) : T G X Wx e (fun ρ => bnd (g ρ) tru) :=
  weakT (pt_truth h he) fun σ H Q ⟨c, ρ, n, P, PX, I, q, hg, hx⟩ => tE.bnd I q hx fun d k u S' H' p g I' hx' r => by
    obtain ⟨b, h1, h2⟩ := r.tru p
    exact ⟨b, h1, hg b k S' H' h2 g I'⟩
theorem t_not {e : Expr} {pos : Pos} {g : Env → W Bool} (h : T G X Wx e g) : T G X Wx (.UnaryOp .Not e pos) (fun ρ => bnd (g ρ) fun b => ret (!b)) :=
  weakT (pt_not h) fun σ H Q ⟨c, ρ, n, P, PX, I, q, hg, hx⟩ => tT.bnd I q hx fun b k S' H' p g I' hx' => hg (!b) k S' H' p g I'
def TW (G : PenK) (X : Cx) (Wx : WX) (e : Expr) (g : Env → W Bool) : Prop := PW X e (tT G X Wx g)
theorem tw_and1 {e : Expr} {pos : Pos} {g : Env → W Bool} (h : T G X Wx e g) : TW G X Wx (.BoolOp .And [e] pos) g := pw_and1 h
theorem tw_or1 {e : Expr} {pos : Pos} {g : Env → W Bool} (h : T G X Wx e g) : TW G X Wx (.BoolOp .Or [e] pos) g := pw_or1 h
theorem tw_and {a b : Expr} {rest : List Expr} {pos : Pos} {ga gb : Env → W Bool} (ha : T G X Wx a ga) (hb : TW G X Wx (.BoolOp .And (b :: rest) pos) gb) :
    TW G X Wx (.BoolOp .And (a :: b :: rest) pos) (fun ρ => bnd (ga ρ) fun x => if x = true then gb ρ else ret false) :=
  weakW (pw_and ha hb) fun σ H Q ⟨c, ρ, n, P, PX, I, q, hg, hx⟩ => tT.bnd I q hx fun b k S' H' p g I' hx' => by
    cases b with
    | true => exact iteT ⟨_, ρ, k, P, PX, I', p, hg.grow g, hx'⟩
    | false => exact iteF (hg false k S' H' p g I')
theorem tw_or {a b : Expr} {rest : List Expr} {pos : Pos} {ga gb : Env → W Bool} (ha : T G X Wx a ga) (hb : TW G X Wx (.BoolOp .Or (b :: rest) pos) gb) :
    TW G X Wx (.BoolOp .Or (a :: b :: rest) pos) (fun ρ => bnd (ga ρ) fun x => if x = true then ret true else gb ρ) :=
  weakW (pw_or ha hb) fun σ H Q ⟨c, ρ, n, P, PX, I, q, hg, hx⟩ => tT.bnd I q hx fun b k S' H' p g I' hx' => by
    cases b with
    | true => exact iteT (hg true k S' H' p g I')
    | false => exact iteF ⟨_, ρ, k, P, PX, I', p, hg.grow g, hx'⟩
theorem TW.t {e : Expr} {g : Env → W Bool} (h : TW G X Wx e g) : T G X Wx e g := PW.pt h
/-- and, or as values -/
theorem e_one {op} {a : Expr} {pos : Pos} {g : Env → W D} (h : E G X Wx a g) : E G X Wx (.BoolOp op [a] pos) g := pe_one h
theorem e_and {a b : Expr} {rest : List Expr} {pos : Pos} {ga gb : Env → W D} (ha : E G X Wx a ga) (hb : E G X Wx (.BoolOp .And (b :: rest) pos) gb) :
    E G X Wx (.BoolOp .And (a :: b :: rest) pos) (fun ρ => bnd (ga ρ) fun x => bnd (tru x) fun k => if k = true then gb ρ else ret x) :=
  weakE (pe_andT ha hb) fun σ H Q ⟨c, ρ, n, P, PX, I, q, hg, hx⟩ => tE.bnd I q hx fun d k u S' H' p g I' hx' r => by
    obtain ⟨b, h1, h2⟩ := r.tru p
    refine ⟨b, h1, ?_⟩
    cases b with
    | true => exact iteT ⟨_, ρ, k, P, PX, I', h2, hg.grow g, hx'⟩
    | false => exact iteF (hg d k u S' H' h2 g I' r)
theorem e_not {a : Expr} {pos : Pos} {ga : Env → W D} (ha : E G X Wx a ga) : E G X Wx (.UnaryOp .Not a pos) (fun ρ => bnd (ga ρ) fun x => bnd (tru x) fun k => ret (.bl (!k))) :=
  weakE (pe_notT ha) fun σ H Q ⟨c, ρ, n, P, PX, I, q, hg, hx⟩ => tE.bnd I q hx fun d k u S' H' p g I' hx' r => by
    obtain ⟨b, h1, h2⟩ := r.tru p
    exact ⟨b, h1, hg (.bl (!b)) k _ S' H' h2 g I' rfl⟩
theorem e_if {t a b : Expr} {pos : Pos} {gt : Env → W Bool} {ga gb : Env → W D} (ht : T G X Wx t gt) (ha : E G X Wx a ga) (hb : E G X Wx b gb) :
    E G X Wx (.IfExp t a b pos) (fun ρ => bnd (gt ρ) fun x => if x = true then ga ρ else gb ρ) :=
  weakE (pe_ifExp ht ha hb) fun σ H Q ⟨c, ρ, n, P, PX, I, q, hg, hx⟩ => tT.bnd I q hx fun b k S' H' p g I' hx' => by
    cases b with
    | true => exact iteT ⟨_, ρ, k, P, PX, I', p, hg.grow g, hx'⟩
    | false => exact iteF ⟨_, ρ, k, P, PX, I', p, hg.grow g, hx'⟩

/-! ### arguments, displays -/
theorem a_nil : A G X Wx [] (fun _ => ret []) := weakA pa_nil fun σ H Q ⟨c, ρ, n, P, PX, I, q, hg, hx⟩ => hg [] n [] c.S H q .refl I rfl
theorem a_cons {e : Expr} {es : List Expr} {g : Env → W D} {gs : Env → W (List D)} (h : E G X Wx e g) (hs : A G X Wx es gs) (hp : starEach (e :: es) X.env = (false, eval e X.env) :: starEach es X.env := by rfl) :
    A G X Wx (e :: es) (fun ρ => bnd (g ρ) fun x => bnd (gs ρ) fun xs => ret (x :: xs)) :=
  weakA (pa_cons h hs hp) fun σ H Q ⟨c, ρ, n, P, PX, I, q, hg, hx⟩ => tE.bnd I q hx fun d k u S' H' p g I' hx' r => tAr.bnd I' p hx' fun ds k2 us S2 H2 p2 g2 I2 hx2 r2 =>
    hg (d :: ds) k2 (u :: us) S2 H2 p2 (g.trans g2) I2 ⟨u, us, rfl, Rep.grow g2 _ _ r, r2⟩
def few (xs : List D) (m : W α) : W α := grd (xs.length ≤ sizeLine) m
theorem e_tup {es : List Expr} {x1 : Nat} {pos : Pos} {gs : Env → W (List D)} (h : A G X Wx es gs) : E G X Wx (.Tuple es x1 pos) (fun ρ => bnd (gs ρ) fun xs => few xs (ret (.tup xs))) :=
  weakE (pe_tupZ h) fun σ H Q ⟨c, ρ, n, P, PX, I, q, hg, hx⟩ => tAr.bnd I q hx fun ds k us S' H' ⟨z, p⟩ g I' hx' r => ⟨by rw [r.len]; exact z, fun a o ha hd =>
    (hg.grow g).new p I' ha fun g2 => ⟨a, us, rfl, .inl ⟨.inr rfl, o, upd_same, hd⟩, z, Reps.grow g2 _ _ r⟩⟩
theorem o_lst {es : List Expr} {pos : Pos} {gs : Env → W (List D)} (h : A G X Wx es gs) : EO G X Wx (.List es pos) (fun ρ => bnd (gs ρ) fun xs => few xs (ret xs)) :=
  weakE (pe_lst h) fun σ H Q ⟨c, ρ, n, P, PX, I, q, hg, hx⟩ => tAr.bnd I q hx fun ds k us S' H' ⟨z, p⟩ g I' hx' r => ⟨by rw [r.len]; exact z, fun a ha =>
    (hg.grow g).new p I' ha z r⟩

/-! ### subscripts, slices -/
theorem atI_len {α β : Type} {xs : List α} {ys : List β} {i : Int} {y : β} (e : xs.length = ys.length) (h : atI ys i = some y) : ∃ j : Nat, ys[j]? = some y ∧ ∀ x : α, xs[j]? = some x → atI xs i = some x := by
  unfold atI at *
  cases q : ixN ys.length i with
  | none => rw [q] at h; cases h
  | some j =>
    rw [q] at h
    exact ⟨j, h, fun x hx => by rw [e, q]; exact hx⟩
theorem v2_ix : V2 G X Wx ixD (rIx X.K) := by
  intro c σ ρ H n P PX d e v w Q I rd re q hg hx
  cases e with
  | int i =>
    cases re
    cases d with
    | lst xs =>
      obtain ⟨a, vs, rfl, r1, _, q1⟩ := rd
      have q : (match atI xs i with | some x => ret x | none => stuck : W D) n P PX := q
      cases hx : atI xs i with
      | none => rw [hx] at q; exact q.elim
      | some x =>
        rw [hx] at q
        obtain ⟨j, e1, e2⟩ := atI_len q1.len hx
        obtain ⟨u, h1, h2⟩ := Reps.at q1 e1
        exact .inl ⟨a, vs, _, u, rfl, rfl, r1.sq, e2 u h1, hg.at q I h2⟩
    | tup xs =>
      obtain ⟨a, vs, rfl, r1, _, q1⟩ := rd
      have q : (match atI xs i with | some x => ret x | none => stuck : W D) n P PX := q
      cases hx : atI xs i with
      | none => rw [hx] at q; exact q.elim
      | some x =>
        rw [hx] at q
        obtain ⟨j, e1, e2⟩ := atI_len q1.len hx
        obtain ⟨u, h1, h2⟩ := Reps.at q1 e1
        exact .inr (.inl ⟨a, vs, _, u, rfl, rfl, r1.sq, e2 u h1, hg.at q I h2⟩)
    | str z =>
      obtain ⟨rfl, hz⟩ := rd
      have q : (match atI z.cps.toList i with | some k => ret (.str ⟨#[k]⟩) | none => stuck : W D) n P PX := q
      cases hx : atI z.cps.toList i with
      | none => rw [hx] at q; exact q.elim
      | some k =>
        rw [hx] at q
        exact .inr (.inr ⟨_, _, k, rfl, rfl, hz, hx, hg.at (d := .str ⟨#[k]⟩) q I ⟨rfl, by rw [sizeLine_eq]; show 1 ≤ 16777216; decide⟩⟩)
    | _ => exact q.elim
  | _ => cases d <;> exact q.elim
theorem e_ix {a b : Expr} {pos : Pos} {ga gb : Env → W D} (ha : E G X Wx a ga) (hb : E G X Wx b gb) (hs : PlainIx b := by intro _ _; rfl) : E G X Wx (.Subscript a b pos) (fun ρ => bnd (ga ρ) fun x => bnd (gb ρ) fun y => ixD x y) :=
  two_parts v2_ix ha hb (pe_ix ix_seq ha hb hs)
/-- a part of a slice -/
def PP (G : PenK) (X : Cx) (Wx : WX) (e : Option Expr) (g : Env → W (Option Int)) : Prop :=
  ∃ t, PO X e t ∧ ∀ c ρ n P PX σ H Q, SI G X.K c σ H ρ n → g ρ n P PX → OKx G X Wx c σ ρ H PX → (∀ o k S' H', P o k → Grow c.S S' H H' → SI G X.K (c.to S') σ H' ρ k → Q o H') → t σ H Q
theorem p_none : PP G X Wx none (fun _ => ret none) := ⟨_, po_none, fun c ρ n P PX σ H Q I q hx hg => hg none n c.S H q .refl I⟩
def intO : D → W (Option Int)
  | .int i => ret (some i)
  | _ => stuck
theorem p_some {e : Expr} {g : Env → W D} (h : E G X Wx e g) : PP G X Wx (some e) (fun ρ => bnd (g ρ) intO) :=
  ⟨_, po_some h, fun c ρ n P PX σ H Q I q hx hg => tE.bnd I q hx fun d k u S' H' p g I' hx' r => by
    cases d with
    | int i => cases r; exact ⟨i, rfl, hg (some i) k S' H' p g I'⟩
    | _ => exact p.elim⟩
def slD (d : D) (lo hi : Option Int) : W D := match d with
  | .tup xs => ret (.tup (cutD xs lo hi))
  | .str z => ret (.str (cutS z lo hi))
  | .lst xs => ret (.lst (cutD xs lo hi))
  | _ => stuck
theorem Reps.cut {K : PySem.W.Frag} {S : Addr → Prop} {H : Hp} {xs : List D} {vs : List V} {lo hi : Option Int} (r : Reps K S H xs vs) : Reps K S H (cutD xs lo hi) (cutV vs lo hi) := by
  unfold cutD cutV
  rw [r.len]
  exact Reps.take _ (Reps.drop _ r)
theorem cutD_len {α : Type} (xs : List α) (lo hi : Option Int) : (cutD xs lo hi).length ≤ xs.length := by
  unfold cutD
  rw [List.length_take, List.length_drop]
  omega
theorem cutD_all {α : Type} {xs : List α} {lo hi : Option Int} (h : HT.sIx xs.length 0 lo = 0 ∧ HT.sIx xs.length xs.length hi = xs.length) : cutD xs lo hi = xs := by
  unfold cutD
  rw [h.1, h.2]
  exact List.take_length
theorem e_sl {e : Expr} {lo hi : Option Expr} {p2 pos : Pos} {g : Env → W D} {gl gh : Env → W (Option Int)} (h : E G X Wx e g) (hl : PP G X Wx lo gl) (hh : PP G X Wx hi gh) :
    E G X Wx (.Subscript e (.Slice lo hi none p2) pos) (fun ρ => bnd (g ρ) fun x => bnd (gl ρ) fun i => bnd (gh ρ) fun j => slD x i j) := by
  obtain ⟨tl, hl1, hl2⟩ := hl
  obtain ⟨th, hh1, hh2⟩ := hh
  refine weakE (pe_slice (sl_tupZ.or (sl_str.or sl_list)) h hl1 hh1) fun σ H Q ⟨c, ρ, n, P, PX, I, q, hg, hx⟩ => tE.bnd I q hx fun d k u S' H' p g I' hx' r =>
    hl2 _ ρ k (fun i k => bnd (gh ρ) (fun j => slD d i j) k P PX) PX σ H' _ I' p hx' fun i k2 S2 H2 p2 g2 I2 => hh2 _ ρ k2 (fun j k => slD d i j k P PX) PX σ H2 _ I2 p2 (hx'.grow g2) fun j k3 S3 H3 p3 g3 I3 => ?_
  have r3 := Rep.grow (g2.trans g3) _ _ r
  have hg3 := hg.grow (g.trans (g2.trans g3))
  cases d with
  | tup xs =>
    obtain ⟨a, vs, rfl, r1, z, q1⟩ := id r3
    refine .inl ⟨a, vs, rfl, r1.sq, fun hw => ?_, fun _ b o hb hd => hg3.new p3 I3 hb fun g4 => ⟨b, _, rfl, .inl ⟨.inr rfl, o, upd_same, hd⟩, Nat.le_trans (cutD_len _ _ _) z, Reps.grow g4 _ _ q1.cut⟩⟩
    rw [q1.len] at hw
    have p3' : P (.tup (cutD xs i j)) k3 := p3
    rw [cutD_all hw] at p3'
    exact hg3.at p3' I3 r3
  | str z =>
    obtain ⟨rfl, hz⟩ := r3
    exact .inr (.inl ⟨z, rfl, hz, hg3.at (d := .str (cutS z i j)) p3 I3 ⟨rfl, Nat.le_trans (cutS_length z i j) hz⟩⟩)
  | lst xs =>
    obtain ⟨a, vs, rfl, r1, z, q1⟩ := r3
    exact .inr (.inr ⟨a, vs, rfl, r1.sq, fun b hb => hg3.new p3 I3 hb fun g4 => ⟨b, _, rfl, ⟨.inr rfl, upd_same⟩, Nat.le_trans (cutD_len _ _ _) z, Reps.grow g4 _ _ q1.cut⟩⟩)
  | _ => exact p3.elim
/-! ### calls of built-ins -/
theorem e_callB {x : Str} {p pos : Pos} {id : String} {e : Expr} {es : List Expr} {r : List V → Hp → VK → Prop} {gs : Env → W (List D)} {h : List D → W D} (hm : X.mg x = none) (hv : bootBuiltins x = some (.builtin id)) (o : CallR X (.builtin id) r) (v : VA G X Wx h r) (ha : A G X Wx (e :: es) gs)
    (hg : Gl X x := by rfl) (hn : x ≠ "__name__" := by decide) (hdb : (x == ("__debug__" : Str)) = false := by decide) (he : starEach (e :: es) X.env = (false, eval e X.env) :: starEach es X.env := by rfl) (hpl : (backTo pos (starEach es X.env)).any (·.1) = false := by rfl) :
    E G X Wx (.Call (.Name x p) (e :: es) [] pos) (fun ρ => bnd (gs ρ) h) :=
  weakE (pe_callB o hg hm hv ha hn hdb he hpl) fun σ H Q ⟨c, ρ, n, P, PX, I, q, hg, hx⟩ => tAr.bnd I q hx fun ds k us S' H' p g I' hx' r => v _ σ ρ H' k P PX ds us Q I' r p (hg.grow g) hx'
theorem e_callT {x : Str} {p pos : Pos} {T : String} {e : Expr} {es : List Expr} {r : List V → Hp → VK → Prop} {gs : Env → W (List D)} {h : List D → W D} (hm : X.mg x = none) (hv : bootBuiltins x = some (.type T)) (o : CallR X (.type T) r) (v : VA G X Wx h r) (ha : A G X Wx (e :: es) gs)
    (hg : Gl X x := by rfl) (hn : x ≠ "__name__" := by decide) (hdb : (x == ("__debug__" : Str)) = false := by decide) (he : starEach (e :: es) X.env = (false, eval e X.env) :: starEach es X.env := by rfl) (hpl : (backTo pos (starEach es X.env)).any (·.1) = false := by rfl) :
    E G X Wx (.Call (.Name x p) (e :: es) [] pos) (fun ρ => bnd (gs ρ) h) :=
  weakE (pe_callTy o hg hm hv ha hn hdb he hpl) fun σ H Q ⟨c, ρ, n, P, PX, I, q, hg, hx⟩ => tAr.bnd I q hx fun ds k us S' H' p g I' hx' r => v _ σ ρ H' k P PX ds us Q I' r p (hg.grow g) hx'
theorem Reps.one_inv {K : PySem.W.Frag} {S : Addr → Prop} {H : Hp} {x : D} {vs : List V} (r : Reps K S H [x] vs) : ∃ v, vs = [v] ∧ Rep K S H x v := by
  obtain ⟨v, ws, rfl, r, e⟩ := r
  have e : ws = [] := e
  rw [e]
  exact ⟨v, rfl, r⟩
theorem Reps.two_inv {K : PySem.W.Frag} {S : Addr → Prop} {H : Hp} {x y : D} {vs : List V} (r : Reps K S H [x, y] vs) : ∃ v w, vs = [v, w] ∧ Rep K S H x v ∧ Rep K S H y w := by
  obtain ⟨v, ws, rfl, r, q⟩ := r
  obtain ⟨w, rfl, r2⟩ := Reps.one_inv q
  exact ⟨v, w, rfl, r, r2⟩
theorem va_one {f : D → W D} {r : V → Hp → VK → Prop} {r' : List V → Hp → VK → Prop} (v : V1 G X Wx f r) (h : ∀ x H Q, r x H Q → r' [x] H Q) : VA G X Wx (one f) r' := by
  intro c σ ρ H n P PX ds vs Q I rs q hg hx
  cases ds with
  | nil => exact q.elim
  | cons d ds =>
    cases ds with
    | nil =>
      obtain ⟨u, rfl, r⟩ := rs.one_inv
      exact h u H Q (v c σ ρ H n P PX d u Q I r q hg hx)
    | cons _ _ => exact q.elim
theorem RepK.len {K : PySem.W.Frag} {S : Addr → Prop} {H : Hp} : ∀ {xs : List (Key × D)} {vs : List (Key × V)}, RepK K S H xs vs → vs.length = xs.length
  | [], _, h => by
    have e : _ = [] := h
    rw [e]
    rfl
  | (k, x) :: xs, _, h => by
    obtain ⟨v, ws, rfl, _, q⟩ := h
    show ws.length + 1 = xs.length + 1
    rw [RepK.len q]
theorem call_lenR : CallR X (.builtin "len") (fun xs H Q => ∃ a kvs, xs = [V.ref a] ∧ Rd H a (.dK kvs) ∧ Q (.int kvs.length) H) := by
  intro pins s σ H xs us Q I r q
  obtain ⟨a, kvs, ex, e, q⟩ := q
  subst ex
  obtain ⟨u, eu, rx⟩ := vals1 r
  subst eu
  cases rx
  exact d_len I e fun t s' I' => ⟨.int kvs.length, H, I', ⟨t, rfl⟩, q⟩
theorem e_len {p pos : Pos} {e : Expr} {g : Env → W D} (hm : X.mg "len" = none) (h : E G X Wx e g) (hg : Gl X "len" := by rfl) (he : starEach [e] X.env = (false, eval e X.env) :: starEach [] X.env := by rfl) :
    E G X Wx (.Call (.Name "len" p) [e] [] pos) (fun ρ => bnd (bnd (g ρ) fun x => bnd (ret []) fun xs => ret (x :: xs)) (one lenD)) :=
  e_callB hm PySem.boot_len (call_len.or call_lenR) (va_one (r := fun x H Q => (∃ n : Nat, LenV X.K x H n ∧ Q (.int n) H) ∨ ∃ d kvs, x = .ref d ∧ Rd H d (.dK kvs) ∧ Q (.int kvs.length) H) (by
    intro c σ ρ H n P PX d v Q I r q hg hx
    cases d with
    | lst xs => obtain ⟨a, vs, rfl, r1, _, q1⟩ := r; exact .inl ⟨xs.length, .inl ⟨vs, r1.sq, q1.len.symm⟩, hg.at (d := .int xs.length) q I rfl⟩
    | tup xs => obtain ⟨a, vs, rfl, r1, _, q1⟩ := r; exact .inl ⟨xs.length, .inr ⟨vs, r1.sq, q1.len.symm⟩, hg.at (d := .int xs.length) q I rfl⟩
    | str x => obtain ⟨rfl, z⟩ := r; exact .inl ⟨x.length, ⟨z, rfl⟩, hg.at (d := .int x.length) q I rfl⟩
    | dic kvs => obtain ⟨a, kws, rfl, r1, q1⟩ := r; exact .inr ⟨a, kws, rfl, r1.2, by rw [q1.len]; exact hg.at (d := .int kvs.length) q I rfl⟩
    | _ => exact q.elim) fun x H Q h => h.elim (fun ⟨n, h1, h2⟩ => .inl ⟨x, n, rfl, h1, h2⟩) fun ⟨d, kvs, h1, h2, h3⟩ => .inr ⟨d, kvs, by rw [h1], h2, h3⟩) (a_cons h a_nil he) hg (by decide) (by decide) he (by rfl)
end
end PL

/-! The layer: statements, targets, walks, loops, comprehensions. -/
namespace PL
open PySem PySem.Spec L2

/-! ### targets -/
inductive Tg where
  | nm (i : Nat) | tp (ts : List Tg)
mutual
def setT : Tg → D → Env → W Env
  | .nm i, x, ρ => ret (ρ.set i (.d x))
  | .tp ts, .tup xs, ρ => grd (xs.length = ts.length) (setTs ts xs ρ)
  | .tp ts, .lst xs, ρ => grd (xs.length = ts.length) (setTs ts xs ρ)
  | .tp _, _, _ => stuck
def setTs : List Tg → List D → Env → W Env
  | [], [], ρ => ret ρ
  | t :: ts, x :: xs, ρ => bnd (setT t x ρ) fun ρ' => setTs ts xs ρ'
  | _, _, _ => stuck
end
mutual
def Tg.ix : Tg → List Nat
  | .nm i => [i]
  | .tp ts => Tg.ixs ts
def Tg.ixs : List Tg → List Nat
  | [] => []
  | t :: ts => t.ix ++ Tg.ixs ts
end
/-- only the slots vs may differ -/
def But (vs : List Nat) (σ σ' : L2.St) : Prop := σ'.length = σ.length ∧ ∀ i, i ∉ vs → σ'[i]? = σ[i]?
def ButE (vs : List Nat) (ρ ρ' : Env) : Prop := ρ'.length = ρ.length ∧ ∀ i, i ∉ vs → ρ'[i]? = ρ[i]?

section
variable {G : PenK} {X : Cx} {Wx : WX}

mutual
def gT (K : PySem.W.Frag) : Tg → TG
  | .nm i => gName i
  | .tp ts => fun v σ H Q => gTup K ts.length (gTs K ts) v σ H Q ∨ gUnl K ts.length (gTs K ts) v σ H Q
def gTs (K : PySem.W.Frag) : List Tg → TGs
  | [] => gNil
  | t :: ts => gCons (gT K t) (gTs K ts)
end
def PTg (X : Cx) (tg : Expr) (t : Tg) : Prop := PG X tg (gT X.K t)
def PTgs (X : Cx) (tgs : List Expr) (ts : List Tg) : Prop := PGs X tgs (gTs X.K ts)
theorem But.set {σ : L2.St} {i : Nat} {o : Option V} : But [i] σ (σ.set i o) := ⟨by rw [List.length_set], fun j h => by rw [List.getElem?_set_ne (fun e => h (by rw [e]; exact List.mem_singleton.mpr rfl))]⟩
theorem ButE.set {ρ : Env} {i : Nat} {o : SV} : ButE [i] ρ (ρ.set i o) := ⟨by rw [List.length_set], fun j h => by rw [List.getElem?_set_ne (fun e => h (by rw [e]; exact List.mem_singleton.mpr rfl))]⟩
theorem But.app {σ σ1 σ2 : L2.St} {vs ws : List Nat} (a : But vs σ σ1) (b : But ws σ1 σ2) : But (vs ++ ws) σ σ2 :=
  ⟨b.1.trans a.1, fun i h => (b.2 i fun z => h (List.mem_append_right _ z)).trans (a.2 i fun z => h (List.mem_append_left _ z))⟩
theorem ButE.app {σ σ1 σ2 : Env} {vs ws : List Nat} (a : ButE vs σ σ1) (b : ButE ws σ1 σ2) : ButE (vs ++ ws) σ σ2 :=
  ⟨b.1.trans a.1, fun i h => (b.2 i fun z => h (List.mem_append_right _ z)).trans (a.2 i fun z => h (List.mem_append_left _ z))⟩
mutual
theorem gT_ok {K : PySem.W.Frag} : ∀ (t : Tg) {c : C} {σ : L2.St} {ρ : Env} {H : Hp} {n : Nt} {P : Env → Nt → Prop} {PX : Exc → Nt → Prop} {d : D} {v : V} {Q : L2.St → Hp → Prop}, SI G K c σ H ρ n → Rep K c.S H d v → setT t d ρ n P PX →
    (∀ ρ' k σ', P ρ' k → SI G K c σ' H ρ' k → But t.ix σ σ' → ButE t.ix ρ ρ' → Q σ' H) → gT K t v σ H Q
  | .nm i, c, σ, ρ, H, n, P, PX, d, v, Q, I, r, q, h => h _ n _ q (I.set r) But.set ButE.set
  | .tp ts, c, σ, ρ, H, n, P, PX, d, v, Q, I, r, q, h => by
    cases d with
    | tup xs =>
      obtain ⟨a, vs, rfl, r1, z, r2⟩ := r
      exact .inl ⟨a, vs, rfl, r1.sq, r2.len.trans q.1, gTs_ok ts I r2 q.2 h⟩
    | lst xs =>
      obtain ⟨a, vs, rfl, r1, z, r2⟩ := r
      exact .inr ⟨a, vs, rfl, r1.sq, r2.len.trans q.1, gTs_ok ts I r2 q.2 h⟩
    | _ => exact q.elim
theorem gTs_ok {K : PySem.W.Frag} : ∀ (ts : List Tg) {c : C} {σ : L2.St} {ρ : Env} {H : Hp} {n : Nt} {P : Env → Nt → Prop} {PX : Exc → Nt → Prop} {ds : List D} {vs : List V} {Q : L2.St → Hp → Prop}, SI G K c σ H ρ n → Reps K c.S H ds vs → setTs ts ds ρ n P PX →
    (∀ ρ' k σ', P ρ' k → SI G K c σ' H ρ' k → But (Tg.ixs ts) σ σ' → ButE (Tg.ixs ts) ρ ρ' → Q σ' H) → gTs K ts vs σ H Q
  | [], c, σ, ρ, H, n, P, PX, ds, vs, Q, I, r, q, h => by
    cases ds with
    | nil =>
      have e : vs = [] := r
      exact ⟨e, h ρ n σ q I ⟨rfl, fun _ _ => rfl⟩ ⟨rfl, fun _ _ => rfl⟩⟩
    | cons _ _ => exact q.elim
  | t :: ts, c, σ, ρ, H, n, P, PX, ds, vs, Q, I, r, q, h => by
    cases ds with
    | nil => exact q.elim
    | cons d ds =>
      obtain ⟨v, ws, rfl, r1, r2⟩ := r
      exact ⟨v, ws, rfl, gT_ok t I r1 q fun ρ1 k1 σ1 q1 I1 b1 e1 => gTs_ok ts I1 r2 q1 fun ρ2 k2 σ2 q2 I2 b2 e2 => h ρ2 k2 σ2 q2 I2 (b1.app b2) (e1.app e2)⟩
end
theorem g_nm {x : Str} {pos : Pos} (i : Nat) (hN : X.N.Nodup) (hi : X.N[i]? = some x := by rfl) (hx : Loc X.env.scope x := by first | exact Or.inl rfl | exact Or.inr rfl) (hf : X.fn x = true ∨ X.env.scope.names.lookup x = some .local := by first | exact .inl rfl | exact .inr rfl) : PTg X (.Name x pos) (.nm i) := pg_name hN hi hx hf
theorem gs_nil : PTgs X [] [] := pgs_nil
theorem gs_cons {tg : Expr} {tgs : List Expr} {t : Tg} {ts : List Tg} (h1 : PTg X tg t) (h2 : PTgs X tgs ts)
    (ht : (assignEach (tg :: tgs) X.env).map (·.2) = assign tg X.env :: (assignEach tgs X.env).map (·.2) := by rfl) : PTgs X (tg :: tgs) (t :: ts) := pgs_cons h1 h2 ht
theorem g_tp {es : List Expr} {k : Nat} {pos : Pos} {ts : List Tg} (hc : X.calm = true) (h : PTgs X es ts) (hn : (assignEach es X.env).length = ts.length := by rfl) (hst : (assignEach es X.env).findIdx? (·.1) = none := by rfl) :
    PTg X (.Tuple es k pos) (.tp ts) :=
  ⟨fun pins sh σ H v u Q I r q => q.elim ((pg_tup hc h hn hst).run pins sh σ H v u Q I r) ((pg_unl hc h hn hst).run pins sh σ H v u Q I r)⟩

/-! ### statements -/
theorem SI.bk {c : C} {σ : L2.St} {ρ : Env} {H : Hp} {n : Nt} (I : SI G X.K c σ H ρ n) : SI G X.K (c.to c.S) σ H ρ n := I
theorem GlS.seq {c : C} {H : Hp} {P : Out → Nt → Prop} {PX : Exc → Nt → Prop} {Dn : Ends} {f : Env → W Out} {N : L2.St → Hp → Prop} (hg : GlS G X c H P Dn)
    (hN : ∀ ρ' k σ' S' H', f ρ' k P PX → Grow c.S S' H H' → SI G X.K (c.to S') σ' H' ρ' k → N σ' H') :
    GlS G X c H (fun o k => (match o with | .nx ρ => f ρ | .rt d ρ => ret (.rt d ρ) | .bk ρ => ret (.bk ρ) | .ct ρ => ret (.ct ρ) : W Out) k P PX) { Dn with nx := N } :=
  ⟨fun ρ' k σ' S' H' p g I => hN ρ' k σ' S' H' p g I, fun d k v σ' ρ' S' H' p g I r => hg.2.1 d k v σ' ρ' S' H' p g I r, fun ρ' k σ' S' H' p g I => hg.2.2.1 ρ' k σ' S' H' p g I, fun ρ' k σ' S' H' p g I => hg.2.2.2 ρ' k σ' S' H' p g I⟩
/-- slot i is given up -/
def frz (i : Nat) (ρ : Env) : Env := match ρ[i]? with
  | some s => ρ.set i s.bor
  | none => ρ
theorem s_asg {tg e : Expr} {pos : Pos} {t : Tg} {g : Env → W D} (h : E G X Wx e g) (ht : PTg X tg t) (h1 : (assignEach [tg] X.env).map (·.2) = [assign tg X.env] := by rfl) (hs : swapsWithSole [tg] e pos.line X.env = pure false := by rfl) (hw : swappedStores [tg] e X.env = pure none := by rfl) :
    St1 G X Wx (.Assign [tg] e pos) (fun ρ => bnd (g ρ) fun d => bnd (setT t d ρ) fun ρ' => ret (.nx ρ')) := by
  exact weakS (ps_asg h ht hs hw h1) fun Dn σ H ⟨c, ρ, n, P, PX, I, q, hg, hx⟩ => tE.bnd I q hx.x fun d k v S' H' p g I' hx' r => gT_ok t (P := fun ρ' k => P (.nx ρ') k) I' r p fun ρ' k2 σ' p2 I2 _ _ => hg.1 ρ' k2 σ' S' H' p2 g I2
/-- name = a new list of one's own -/
theorem s_own {x : Str} {px pos : Pos} {e : Expr} {g : Env → W (List D)} (i : Nat) (h : EO G X Wx e g) (hN : X.N.Nodup) (hi : X.N[i]? = some x := by rfl) (hx : Loc X.env.scope x := by first | exact Or.inl rfl | exact Or.inr rfl) (hf : X.fn x = true ∨ X.env.scope.names.lookup x = some .local := by first | exact .inl rfl | exact .inr rfl)
    (hs : swapsWithSole [.Name x px] e pos.line X.env = pure false := by rfl) (hw : swappedStores [.Name x px] e X.env = pure none := by rfl) : St1 G X Wx (.Assign [.Name x px] e pos) (fun ρ => bnd (g ρ) fun xs => ret (.nx (ρ.set i (.own xs)))) :=
  weakS (ps_asg h (pg_name hN hi hx hf) hs hw) fun Dn σ H ⟨c, ρ, n, P, PX, I, q, hg, hx⟩ => tO.bnd I q hx.x fun xs k a vs S' H' p g I' hx' e z r f => hg.1 _ k _ S' H' p g (I'.setO e z r f.1 fun j sv _ h1 h2 => f.2 j sv h1 h2)
/-- a list of one's own is changed -/
theorem SI.mut {c : C} {σ : L2.St} {ρ : Env} {H : Hp} {n : Nt} {i : Nat} {xs ys : List D} {a : Addr} {vs : List V} (I : SI G X.K c σ H ρ n) (e : ρ[i]? = some (.own xs)) (es : slot σ i = some (.ref a)) (z : ys.length ≤ sizeLine) (r : Reps X.K c.S H ys vs) :
    SI G X.K c σ (upd H a (.lst vs)) (ρ.set i (.own ys)) n ∧ Grow c.S c.S H (upd H a (.lst vs)) := by
  obtain ⟨y1, y2, y3⟩ := I.own i _ a e rfl es
  have hl : i < ρ.length := (List.getElem?_eq_some_iff.mp e).1
  have g : Grow c.S c.S H (upd H a (.lst vs)) := ⟨fun _ q => q, fun b q => upd_ne fun z => y1 (z ▸ q)⟩
  have key : ∀ j sv, (ρ.set i (.own ys))[j]? = some sv → (j = i ∧ sv = .own ys) ∨ (i ≠ j ∧ ρ[j]? = some sv) := fun j sv e => by
    by_cases h : i = j
    · subst h
      rw [List.getElem?_set_self hl] at e
      exact .inl ⟨rfl, (Option.some.inj e).symm⟩
    · rw [List.getElem?_set_ne h] at e
      exact .inr ⟨h, e⟩
  refine ⟨⟨by rw [List.length_set, I.len], fun j sv e2 => ?_, fun j sv b e2 ho es2 => ?_, fun j k sv sv' b hn e1 e2 ho ho' es1 es2 => ?_, fun b q => ?_, fun b o e2 hn => ?_, fun p e2 => ?_, I.no, fun q e => ⟨(I.tab q e).1, (I.tab q e).2.grow g (upd_ne fun z => (I.tabN e).2.1 (z ▸ y2))⟩, fun b nd e => ⟨(I.mu b nd e).1.grow g (upd_ne fun z => (by rw [z, y3] at e; cases e)), (I.mu b nd e).2⟩, I.mu0, I.mz⟩, g⟩
  · rcases key j sv e2 with ⟨rfl, rfl⟩ | ⟨hn, h⟩
    · exact ⟨a, vs, es, upd_same, z, Reps.grow g _ _ r⟩
    · exact (I.slots j sv h).grow g fun b eb ho => upd_ne fun q => I.apart i j _ sv a hn e h rfl ho es (q ▸ eb)
  · rcases key j sv e2 with ⟨rfl, rfl⟩ | ⟨hn, h⟩
    · exact I.own j _ b e rfl es2
    · exact I.own j sv b h ho es2
  · rcases key j sv e1 with ⟨rfl, rfl⟩ | ⟨hn1, h1⟩
    · rcases key k sv' e2 with ⟨rfl, rfl⟩ | ⟨hn2, h2⟩
      · exact hn rfl
      · exact I.apart j k _ sv' b hn e h2 rfl ho' es1 es2
    · rcases key k sv' e2 with ⟨rfl, rfl⟩ | ⟨hn2, h2⟩
      · exact I.apart j k sv _ b hn h1 e ho rfl es1 es2
      · exact I.apart j k sv sv' b hn h1 h2 ho ho' es1 es2
  · rw [g.eq b q]; exact I.dom b q
  · have q := I.fr b o e2 hn
    rw [upd_ne fun z => by rw [z, y2] at e2; cases e2]
    exact q
  · obtain ⟨h1, h2, h3, h4, h5⟩ := I.pen p e2
    exact ⟨G.dep h1 (upd_ne fun z => h4 (z ▸ y2)) (upd_ne fun z => h5 (z ▸ y2)), h2, h3, h4, h5⟩
def ownAt (ρ : Env) (i : Nat) (f : List D → W Out) : W Out := match ρ[i]? with
  | some (.own xs) => f xs
  | _ => stuck
theorem ownAt_inv {ρ : Env} {i : Nat} {n : Nt} {f : List D → W Out} {P : Out → Nt → Prop} {PX : Exc → Nt → Prop} (h : ownAt ρ i f n P PX) : ∃ xs, ρ[i]? = some (.own xs) ∧ f xs n P PX := by
  unfold ownAt at h
  cases e : ρ[i]? with
  | none => rw [e] at h; exact h.elim
  | some sv =>
    rw [e] at h
    cases sv with
    | own xs => exact ⟨xs, rfl, h⟩
    | _ => exact h.elim
/-- xs.append(e) -/
theorem s_app {x : Str} {px pa pc pos : Pos} {e : Expr} {g : Env → W D} (i : Nat) (h : E G X Wx e g) (hN : X.N[i]? = some x := by rfl) (hv : Vis X.env.scope x := by first | exact Or.inl rfl | exact Or.inr (Or.inl rfl) | exact Or.inr (Or.inr rfl)) (hd : (x == ("__debug__" : Str)) = false := by decide)
    (hcd : (x == ("__classdict__" : Str)) = false := by decide) (hst : starEach [e] X.env = (false, eval e X.env) :: starEach [] X.env := by rfl)
    (hbase : attributeBase (.Name x px) "append" X.env (eval (.Name x px) X.env) = eval (.Name x px) X.env := by rfl)
    (hfew : ((backTo pc (starEach [e] X.env)).all (fun x => !x.1) && (backToKw pc (keywordEach [] X.env)).all (fun x => x.1.isSome)
      && decide (([e] : List Expr).length + ([] : List Keyword).length + (if ([] : List Keyword).isEmpty then 0 else 1) < 30)) = true := by rfl)
    (hline : (pa.endLine == pc.line) = true := by rfl) (hplain : (backTo pc (starEach [] X.env)).any (·.1) = false := by rfl) (hs : swapsWith (.Call (.Attribute (.Name x px) "append" pa) [e] [] pc) none pos.line X.env = pure false := by rfl) :
    St1 G X Wx (.Expr (.Call (.Attribute (.Name x px) "append" pa) [e] [] pc) pos) (fun ρ => ownAt ρ i fun xs => bnd (g ρ) fun d => grd (xs.length < sizeLine) (ret (.nx (ρ.set i (.own (xs ++ [d])))))) :=
  weakS (ps_expr (pe_bm PySem.F.plainAttrs_list PySem.F.slot_list_append PySem.F.type_list_append mt_append (pe_var hN hv hd hcd) (pa_cons h pa_nil hst) hbase hfew hline hst hplain) hs) fun Dn σ H ⟨c, ρ, n, P, PX, I, q, hg, hx⟩ => by
    obtain ⟨xs, e1, q⟩ := ownAt_inv q
    obtain ⟨a, vs, e2, e3, z, r⟩ := I.slots i _ e1
    refine ⟨.ref a, slot_some e2, .inl ⟨rfl, _, SqL.of e3⟩, tE.bnd I q hx.x fun d k v S' H' ⟨z2, p⟩ g I' hx' r' => ?_⟩
    obtain ⟨a', vs', e4, e5, z3, r2⟩ := I'.slots i _ e1
    rw [e2] at e4
    cases e4
    obtain ⟨I3, g3⟩ := I'.mut e1 e2 (ys := xs ++ [d]) (vs := vs' ++ [v]) (by rw [List.length_append]; exact z2) (Reps.app r2 (Reps.one r'))
    exact ⟨a, vs', v, rfl, rfl, e5, by rw [r2.len]; exact z2, hg.1 _ k σ _ _ p (g.trans g3) I3⟩
end
end PL

/-! The layer: walks, loops, comprehensions. -/
namespace PL
open PySem PySem.Spec L2
section
variable {G : PenK} {X : Cx} {Wx : WX}

/-- from S0, H0 on the walk J gives the items xs -/
def Walks (G : PenK) (K : PySem.W.Frag) (J : It) (S0 : Addr → Prop) (H0 : Hp) (xs : List D) : Prop :=
  ∀ (c : C) (ρ : Env) (σ : L2.St) (H : Hp) (n : Nt) (i : Nat), Grow S0 c.S H0 H → SI G K c σ H ρ n →
    (i < xs.length → J.go i H ∧ ∀ v H', J.yld i H v H' → ∃ S' x, Grow c.S S' H H' ∧ SI G K (c.to S') σ H' ρ n ∧ xs[i]? = some x ∧ Rep K S' H' x v) ∧ (xs.length ≤ i → J.stop i H)
def tI (G : PenK) (X : Cx) (Wx : WX) (g : Env → W (List D)) : TI := fun σ H R => ∃ c ρ n P PX, SI G X.K c σ H ρ n ∧ g ρ n P PX ∧
  (∀ xs k S' H' J, P xs k → Grow c.S S' H H' → SI G X.K (c.to S') σ H' ρ k → Walks G X.K J S' H' xs → R J H') ∧ OKx G X Wx c σ ρ H PX
def Wk (G : PenK) (X : Cx) (Wx : WX) (tg e : Expr) (g : Env → W (List D)) : Prop := PI X tg e (tI G X Wx g)
theorem weakI {tg e : Expr} {t t' : TI} (h : PI X tg e t) (f : ∀ σ H R, t' σ H R → t σ H R) : PI X tg e t' := ⟨fun pins s σ H R I q => h.run pins s σ H R I (f σ H R q)⟩

theorem walks_list {K : PySem.W.Frag} {S : Addr → Prop} {H : Hp} {a : Addr} {xs : List D} {vs : List V} (h : RdL S H a vs) (r : Reps K S H xs vs) : Walks G K (Itl K a) S H xs := fun c ρ σ H2 n i g I => by
  have h2 := h.grow g
  have r2 := Reps.grow g _ _ r
  refine ⟨fun hi => ?_, fun hi => ⟨vs, h2.sq, by rw [r2.len]; exact hi⟩⟩
  have hx : xs[i]? = some xs[i] := List.getElem?_eq_getElem hi
  obtain ⟨v, e1, e2⟩ := Reps.at r2 hx
  exact ⟨⟨vs, v, h2.sq, e1⟩, fun u H' ⟨e, y⟩ => ⟨c.S, xs[i], e ▸ .refl, e ▸ I, hx, by
    have := y vs h2.sq
    rw [e1] at this
    cases this
    rw [e]
    exact e2⟩⟩
theorem walks_tup {K : PySem.W.Frag} {S : Addr → Prop} {H : Hp} {a : Addr} {xs : List D} {vs : List V} (h : RdT K S H a vs) (r : Reps K S H xs vs) : Walks G K (Itt K a) S H xs := fun c ρ σ H2 n i g I => by
  have h2 := h.grow g
  have r2 := Reps.grow g _ _ r
  refine ⟨fun hi => ?_, fun hi => ⟨vs, h2.sq, by rw [r2.len]; exact hi⟩⟩
  have hx : xs[i]? = some xs[i] := List.getElem?_eq_getElem hi
  obtain ⟨v, e1, e2⟩ := Reps.at r2 hx
  exact ⟨⟨vs, v, h2.sq, e1⟩, fun u H' ⟨e, y⟩ => ⟨c.S, xs[i], e ▸ .refl, e ▸ I, hx, by
    have := y vs h2.sq
    rw [e1] at this
    cases this
    rw [e]
    exact e2⟩⟩
/-- a list or a tuple -/
theorem pi_seq {tg e : Expr} {te : TE} (he : PE X e te) : PI X tg e (fun σ H R => te σ H fun x H1 => ∃ a xs, x = .ref a ∧ ((SqL X.K H1 a xs ∧ R (Itl X.K a) H1) ∨ (SqT X.K H1 a xs ∧ R (Itt X.K a) H1))) :=
  ⟨fun pins s σ H R I h => thn (he.run pins s σ H _ I h) fun v s1 ⟨x, H1, I1, r1, a, xs, e, q⟩ => by
    subst e
    cases r1
    have fp : ∀ b ∈ [s1.heap.objs.size], FpOk X pins H1 b := fun b hb => by
      rw [List.mem_singleton.mp hb]
      exact I1.fpOk (Nat.le_refl _) (I1.hok.fresh (Nat.le_refl _))
    rcases q with ⟨h1, q⟩ | ⟨h1, q⟩
    · obtain ⟨its, _, p, _⟩ := I1.list h1
      exact PySem.wpAny_pyIter_list p.isList ⟨_, _, _, _, H1, rfl, I1.kept (t' := s1.toks) (fun b o e => Heap.get?_push_of_some _ e), turn_list a _, ⟨_, Heap.get?_push_size _ rfl, rfl, rfl⟩, fp, q⟩
    · obtain ⟨its, _, p, _⟩ := I1.tuple h1
      exact PySem.wpAny_pyIter_tuple (show s1.heap.IsTuple a its.toArray from p) ⟨_, _, _, _, H1, rfl, I1.kept (t' := s1.toks) (fun b o e => Heap.get?_push_of_some _ e), turn_tuple a _, ⟨_, Heap.get?_push_size _ rfl, rfl, rfl⟩, fp, q⟩⟩
theorem w_seq {tg e : Expr} {g : Env → W D} (h : E G X Wx e g) : Wk G X Wx tg e (fun ρ => bnd (g ρ) items) :=
  weakI (pi_seq h) fun σ H R ⟨c, ρ, n, P, PX, I, q, hg, hx⟩ => tE.bnd I q hx fun d k v S' H' p g I' hx' r => by
    cases d with
    | lst xs =>
      obtain ⟨a, vs, rfl, r1, z, q1⟩ := r
      exact ⟨a, vs, rfl, .inl ⟨r1.sq, hg xs k S' H' _ p g I' (walks_list r1 q1)⟩⟩
    | tup xs =>
      obtain ⟨a, vs, rfl, r1, z, q1⟩ := r
      exact ⟨a, vs, rfl, .inr ⟨r1.sq, hg xs k S' H' _ p g I' (walks_tup r1 q1)⟩⟩
    | _ => exact p.elim
/-- the ints lo, lo + 1, .. -/
def rng (lo : Int) (n : Nat) : List D := (List.range n).map fun i => .int (lo + (i : Nat))
def inR (i : Int) : Prop := -(2 ^ 62) ≤ i ∧ i < 2 ^ 62
def rng1 : D → W (List D)
  | .int j => grd (inR j) (ret (rng 0 j.toNat))
  | _ => stuck
theorem rng_len (lo : Int) (n : Nat) : (rng lo n).length = n := by unfold rng; rw [List.length_map, List.length_range]
theorem rng_get {lo : Int} {n i : Nat} (h : i < n) : (rng lo n)[i]? = some (.int (lo + (i : Nat))) := by
  unfold rng
  rw [List.getElem?_map, List.getElem?_range h]
  rfl
theorem walks_rng {K : PySem.W.Frag} {S : Addr → Prop} {H : Hp} {lo : Int} {n : Nat} : Walks G K (Itr lo n) S H (rng lo n) := fun c ρ σ H2 k i g I => by
  rw [rng_len]
  exact ⟨fun hi => ⟨hi, fun v H' ⟨e1, e2⟩ => ⟨c.S, _, e1 ▸ .refl, e1 ▸ I, rng_get hi, e2⟩⟩, fun hi => hi⟩
theorem w_rng1 {tg e : Expr} {p pos : Pos} {g : Env → W D} (hm : X.mg "range" = none) (h : E G X Wx e g) (hg : Gl X "range" := by rfl) (hs : starEach [e] X.env = [(false, eval e X.env)] := by rfl) : Wk G X Wx tg (.Call (.Name "range" p) [e] [] pos) (fun ρ => bnd (g ρ) rng1) :=
  weakI (pi_range1 hg hm (a_cons h a_nil hs) hs) fun σ H R ⟨c, ρ, n, P, PX, I, q, hg, hx⟩ => tAr.bnd (f := fun ds => match ds with | [d] => rng1 d | _ => stuck) I q hx fun ds k vs S' H' p g I' hx' r => by
    cases ds with
    | nil => exact p.elim
    | cons d ds =>
      cases ds with
      | cons _ _ => exact p.elim
      | nil =>
        obtain ⟨v, rfl, r1⟩ := r.one_inv
        cases d with
        | int j => obtain rfl : v = V.int j := r1; exact ⟨j, rfl, p.1.1, p.1.2, hg _ k S' H' _ p.2 g I' walks_rng⟩
        | _ => exact p.elim
/-- the signs of a text -/
def signs : D → W (List D)
  | .str x => ret (x.cps.toList.map fun k => .str ⟨#[k]⟩)
  | _ => stuck
theorem w_str {tg e : Expr} {g : Env → W D} (h : E G X Wx e g) : Wk G X Wx tg e (fun ρ => bnd (g ρ) signs) :=
  weakI (pi_str h) fun σ H R ⟨c, ρ, n, P, PX, I, q, hg, hx⟩ => tE.bnd I q hx fun d k v S' H' p g I' hx' r => by
    cases d with
    | str x =>
      obtain ⟨rfl, z⟩ := r
      refine ⟨x, rfl, hg _ k S' H' _ p g I' fun c2 ρ2 σ2 H2 n2 i g2 I2 => ?_⟩
      rw [List.length_map, Array.length_toList]
      refine ⟨fun hi => ⟨hi, fun v H3 ⟨e1, w, e2, e3⟩ => ⟨c2.S, .str ⟨#[w]⟩, e1 ▸ .refl, e1 ▸ I2, ?_, e3, by rw [sizeLine_eq]; show 1 ≤ 16777216; decide⟩⟩, fun hi => hi⟩
      rw [List.getElem?_map, Array.getElem?_toList, e2]
      rfl
    | _ => exact p.elim

/-! ### for -/
/-- slot i is given up ahead of a block -/
theorem SI.frz {K : PySem.W.Frag} {c : C} {σ : L2.St} {ρ : Env} {H : Hp} {n : Nt} (i : Nat) (I : SI G K c σ H ρ n) : ∃ S', SI G K (c.to S') σ H (PL.frz i ρ) n ∧ Grow c.S S' H H := by
  cases e : ρ[i]? with
  | none => exact ⟨c.S, by unfold PL.frz; rw [e]; exact I, .refl⟩
  | some sv =>
    have ef : PL.frz i ρ = ρ.set i sv.bor := by unfold PL.frz; rw [e]
    rw [ef]
    by_cases ho : sv.isOwn = true
    · obtain ⟨a, es⟩ : ∃ a, slot σ i = some (.ref a) := by
        have q := I.slots i sv e
        cases sv with
        | own xs => obtain ⟨a, _, h, _⟩ := q; exact ⟨a, h⟩
        | ownK xs => obtain ⟨a, _, h, _⟩ := q; exact ⟨a, h⟩
        | _ => cases ho
      have hl : i < ρ.length := (List.getElem?_eq_some_iff.mp e).1
      have g : Grow c.S (fun b => c.S b ∨ b = a) H H := ⟨fun _ q => .inl q, fun _ _ => rfl⟩
      have key : ∀ j s, (ρ.set i sv.bor)[j]? = some s → (j = i ∧ s = sv.bor) ∨ (i ≠ j ∧ ρ[j]? = some s) := fun j s e => by
        by_cases h : i = j
        · subst h
          rw [List.getElem?_set_self hl] at e
          exact .inl ⟨rfl, (Option.some.inj e).symm⟩
        · rw [List.getElem?_set_ne h] at e
          exact .inr ⟨h, e⟩
      obtain ⟨y1, y2, y3⟩ := I.own i sv a e ho es
      refine ⟨fun b => c.S b ∨ b = a, ⟨by rw [List.length_set, I.len], fun j s e2 => ?_, fun j s b e2 ho2 es2 => ?_, fun j k s s' b hn e1 e2 h1 h2 es1 es2 => ?_, fun b q => ?_, I.fr, fun p e2 => ?_, fun b q => ⟨fun z => z.elim (I.no b q).1 fun z => (I.no b q).2 (z ▸ y2), (I.no b q).2⟩, fun q e => ⟨(I.tab q e).1, (I.tab q e).2.grow g rfl⟩, fun b nd e => ⟨(I.mu b nd e).1.grow g rfl, fun z => Or.elim z (I.mu b nd e).2.1 fun z => (by rw [z, y3] at e; cases e), (I.mu b nd e).2.2⟩, I.mu0, I.mz⟩, g⟩
      · rcases key j s e2 with ⟨rfl, rfl⟩ | ⟨_, h⟩
        · have q := (I.slots j sv e).grow g fun _ _ _ => rfl
          cases sv with
          | own xs => obtain ⟨b, vs, e1, r, z, q⟩ := q; rw [es] at e1; cases e1; exact ⟨.ref a, es, a, vs, rfl, ⟨.inr rfl, r⟩, z, q⟩
          | ownK xs => obtain ⟨b, vs, e1, r, q⟩ := q; rw [es] at e1; cases e1; exact ⟨.ref a, es, a, vs, rfl, ⟨.inr rfl, .inl r⟩, q⟩
          | _ => cases ho
        · exact (I.slots j s h).grow g fun _ _ _ => rfl
      · rcases key j s e2 with ⟨rfl, rfl⟩ | ⟨hn, h⟩
        · rw [bor_own] at ho2; cases ho2
        · obtain ⟨z1, z2⟩ := I.own j s b h ho2 es2
          exact ⟨fun q => q.elim z1 fun q => I.apart i j sv s a hn e h ho ho2 es (q ▸ es2), z2⟩
      · rcases key j s e1 with ⟨rfl, rfl⟩ | ⟨_, h1'⟩
        · rw [bor_own] at h1; cases h1
        · rcases key k s' e2 with ⟨rfl, rfl⟩ | ⟨_, h2'⟩
          · rw [bor_own] at h2; cases h2
          · exact I.apart j k s s' b hn h1' h2' h1 h2 es1 es2
      · rcases q with q | rfl
        · exact I.dom b q
        · exact I.own_there ⟨i, sv, e, ho, es⟩
      · obtain ⟨h1, h2, h3, h4, h5⟩ := I.pen p e2
        exact ⟨h1, fun q => q.elim h2 fun q => h4 (q ▸ y2), fun q => q.elim h3 fun q => h5 (q ▸ y2), h4, h5⟩
    · have eb : sv.bor = sv := by cases sv <;> first | rfl | exact absurd rfl ho
      have e3 : ρ.set i sv = ρ := by
        apply List.ext_getElem?
        intro j
        by_cases h : i = j
        · subst h
          rw [List.getElem?_set_self (List.getElem?_eq_some_iff.mp e).1, e]
        · rw [List.getElem?_set_ne h]
      rw [eb, e3]
      exact ⟨c.S, I, .refl⟩
end
end PL

/-! The layer: comprehensions. -/
namespace PL
open PySem PySem.Spec L2

def wip : List Nat → Env → Env
  | [], ρ => ρ
  | v :: vs, ρ => (wip vs ρ).set v .un
def noOwn (vs : List Nat) (ρ : Env) : Bool := vs.all fun v => match ρ[v]? with
  | some s => !s.isOwn
  | none => true
def quiet {α : Type} (m : W α) : W α := fun n P _ => m n P fun _ _ => False
def compW (t : Tg) (gt : Env → W Bool) (ge : Env → W D) (ρ : Env) : List D → W (List D)
  | [] => ret []
  | x :: xs => bnd (setT t x ρ) fun ρ' => bnd (gt ρ') fun b => if b = true then bnd (ge ρ') fun y => bnd (compW t gt ge ρ xs) fun ys => ret (y :: ys) else compW t gt ge ρ xs
abbrev WF : WX := fun _ _ _ _ => False

theorem wip_get : ∀ (vs : List Nat) (ρ : Env) (i : Nat) (s : SV), (wip vs ρ)[i]? = some s → s = .un ∨ (i ∉ vs ∧ ρ[i]? = some s)
  | [], ρ, i, s, h => .inr ⟨by simp, h⟩
  | v :: vs, ρ, i, s, h => by
    unfold wip at h
    by_cases e : v = i
    · subst e
      by_cases hl : v < (wip vs ρ).length
      · rw [List.getElem?_set_self hl] at h
        exact .inl (Option.some.inj h).symm
      · rw [List.getElem?_eq_none (by rw [List.length_set]; omega)] at h
        cases h
    · rw [List.getElem?_set_ne e] at h
      rcases wip_get vs ρ i s h with q | ⟨q1, q2⟩
      · exact .inl q
      · exact .inr ⟨fun z => (List.mem_cons.mp z).elim (fun z => e z.symm) q1, q2⟩
theorem wip_out : ∀ (vs : List Nat) (ρ : Env) (i : Nat), i ∉ vs → (wip vs ρ)[i]? = ρ[i]?
  | [], _, _, _ => rfl
  | v :: vs, ρ, i, h => by
    unfold wip
    rw [List.getElem?_set_ne fun e => h (by rw [e]; exact List.mem_cons_self), wip_out vs ρ i fun z => h (List.mem_cons_of_mem _ z)]
theorem wip_len : ∀ (vs : List Nat) (ρ : Env), (wip vs ρ).length = ρ.length
  | [], _ => rfl
  | v :: vs, ρ => by unfold wip; rw [List.length_set, wip_len vs ρ]
theorem wipe_out : ∀ (vs : List Nat) (σ : L2.St) (i : Nat), i ∉ vs → (L2.wipe σ vs)[i]? = σ[i]?
  | [], _, _, _ => rfl
  | v :: vs, σ, i, h => by
    unfold L2.wipe
    rw [List.getElem?_set_ne fun e => h (by rw [e]; exact List.mem_cons_self), wipe_out vs σ i fun z => h (List.mem_cons_of_mem _ z)]
theorem wipe_in : ∀ (vs : List Nat) (σ : L2.St) (i : Nat), i ∈ vs → i < σ.length → (L2.wipe σ vs)[i]? = some none
  | [], _, _, h, _ => nomatch h
  | v :: vs, σ, i, h, hl => by
    unfold L2.wipe
    by_cases e : v = i
    · subst e
      rw [List.getElem?_set_self (by rw [L2.wipe_length]; exact hl)]
    · rw [List.getElem?_set_ne e]
      exact wipe_in vs σ i ((List.mem_cons.mp h).resolve_left fun z => e z.symm) hl
/-- the slots that the targets may change are wiped: the rest is the same -/
theorem wipe_but {vs ws : List Nat} {σ σ' : L2.St} (b : But ws (L2.wipe σ vs) σ') (h : ∀ i ∈ ws, i ∈ vs) : L2.wipe σ' vs = L2.wipe σ vs := by
  have hl : σ'.length = σ.length := b.1.trans (L2.wipe_length σ vs)
  apply List.ext_getElem?
  intro i
  by_cases hi : i ∈ vs
  · by_cases hz : i < σ.length
    · rw [wipe_in vs σ' i hi (by omega), wipe_in vs σ i hi hz]
    · rw [List.getElem?_eq_none (by rw [L2.wipe_length]; omega), List.getElem?_eq_none (by rw [L2.wipe_length]; omega)]
  · rw [wipe_out vs σ' i hi, b.2 i fun z => hi (h i z)]

section
variable {G : PenK} {K : PySem.W.Frag} {c : C} {σ : L2.St} {ρ : Env} {H : Hp} {n : Nt}
theorem SI.wipe (vs : List Nat) (I : SI G K c σ H ρ n) : SI G K c (L2.wipe σ vs) H (wip vs ρ) n := by
  have st : ∀ i, i ∉ vs → slot (L2.wipe σ vs) i = slot σ i := fun i h => by unfold slot; rw [wipe_out vs σ i h]
  refine ⟨by rw [wip_len, L2.wipe_length, I.len], fun i sv e => ?_, fun i sv a e ho es => ?_, fun i j sv sv' a hn e e' ho ho' es es' => ?_, I.dom, I.fr, I.pen, I.no, I.tab, I.mu, I.mu0, I.mz⟩
  · rcases wip_get vs ρ i sv e with rfl | ⟨h1, h2⟩
    · trivial
    · rw [st i h1]; exact I.slots i sv h2
  · rcases wip_get vs ρ i sv e with rfl | ⟨h1, h2⟩
    · cases ho
    · exact I.own i sv a h2 ho (st i h1 ▸ es)
  · rcases wip_get vs ρ i sv e with rfl | ⟨h1, h2⟩
    · cases ho
    · rcases wip_get vs ρ j sv' e' with rfl | ⟨h1', h2'⟩
      · cases ho'
      · exact I.apart i j sv sv' a hn h2 h2' ho ho' (st i h1 ▸ es) (st j h1' ▸ es')
/-- within a comprehension's block: the new list at D is kept, and is never among what stays -/
def C.blk (c : C) (D : Addr) (o : HO) : C := { c with H0 := fun a => if a = D then some o else c.H0 a, no := fun a => c.no a ∨ a = D }
theorem SI.blk {D : Addr} {o : HO} (I : SI G K c σ H ρ n) (hD : H D = some o) (h0 : c.H0 D = none) (hS : ¬ c.S D) (hM : n.μ D = none) (ho : ¬ ownS ρ σ D) : SI G K (c.blk D o) σ H ρ n := by
  have up : ∀ a, c.H0 a ≠ none → (c.blk D o).H0 a ≠ none := fun a h => by
    show (if a = D then some o else c.H0 a) ≠ none
    split
    · exact fun z => nomatch z
    · exact h
  refine ⟨I.len, I.slots, fun i sv a e h es => ⟨(I.own i sv a e h es).1, ?_, (I.own i sv a e h es).2.2⟩, I.apart, I.dom, fun a u e hn => ?_, fun p e => ?_, fun a h => ?_, fun q e => ⟨.inl (I.tab q e).1, (I.tab q e).2⟩, fun a nd e => ⟨(I.mu a nd e).1, (I.mu a nd e).2.1, (I.mu a nd e).2.2.1.imp id fun h => (if_neg (show ¬ a = D from fun z => (by rw [z, hM] at e; cases e))).trans h, (I.mu a nd e).2.2.2⟩, fun a h => ⟨(I.mu0 a h).1, up a (I.mu0 a h).2⟩, I.mz⟩
  · show (if a = D then some o else c.H0 a) = none
    rw [if_neg (show ¬ a = D from fun z => ho ⟨i, sv, e, h, by rw [← z]; exact es⟩)]
    exact (I.own i sv a e h es).2.1
  · have e : (if a = D then some o else c.H0 a) = some u := e
    split at e
    · rename_i z; rw [z, hD]; exact e
    · exact I.fr a u e hn
  · obtain ⟨h1, h2, h3, h4, h5⟩ := I.pen p e
    exact ⟨h1, h2, h3, up _ h4, up _ h5⟩
  · rcases h with h | h
    · exact ⟨(I.no a h).1, up a (I.no a h).2⟩
    · rw [h]
      exact ⟨hS, by show (if D = D then some o else c.H0 D) ≠ none; rw [if_pos rfl]; exact fun z => nomatch z⟩
/-- an object beside all that is told is changed or laid -/
theorem SI.put {D : Addr} {o : HO} (I : SI G K c σ H ρ n) (h0 : c.H0 D = none) (hS : ¬ c.S D) (hM : n.μ D = none) (ho : ¬ ownS ρ σ D) : SI G K c σ (upd H D o) ρ n ∧ Grow c.S c.S H (upd H D o) := by
  have g : Grow c.S c.S H (upd H D o) := ⟨fun _ q => q, fun b q => upd_ne (show b ≠ D from fun z => hS (z ▸ q))⟩
  refine ⟨⟨I.len, fun i sv e => (I.slots i sv e).grow g fun b eb h => upd_ne (show b ≠ D from fun z => ho ⟨i, sv, e, h, z ▸ eb⟩), I.own, I.apart, fun b q => by rw [g.eq b q]; exact I.dom b q, fun b u e q => ?_, fun q e => ?_, I.no, fun q e => ⟨(I.tab q e).1, (I.tab q e).2.grow g (upd_ne fun z => (I.tabN e).2.1 (by rw [z]; exact h0))⟩, fun b nd e => ⟨(I.mu b nd e).1.grow g (upd_ne (show b ≠ D from fun z => (by rw [z, hM] at e; cases e))), (I.mu b nd e).2⟩, I.mu0, I.mz⟩, g⟩
  · rw [upd_ne (show b ≠ D from fun z => by rw [z, h0] at e; cases e)]
    exact I.fr b u e q
  · obtain ⟨h1, h2, h3, h4, h5⟩ := I.pen q e
    exact ⟨G.dep h1 (upd_ne (show q.1 ≠ D from fun z => h4 (by rw [z]; exact h0))) (upd_ne (show q.2 ≠ D from fun z => h5 (by rw [z]; exact h0))), h2, h3, h4, h5⟩
/-- back from the block -/
theorem SI.restore {D : Addr} {o : HO} {vs : List Nat} {σ2 : L2.St} {ρ2 : Env} {H' : Hp} {S' : Addr → Prop} {k : Nt} (I : SI G K c σ H ρ n) (h0 : c.H0 D = none) (J : SI G K ((c.blk D o).to S') σ2 H' ρ2 k) (g : Grow c.S S' H H')
    (b : ∀ i, i ∉ vs → σ2[i]? = σ[i]?) (be : ∀ i, i ∉ vs → ρ2[i]? = ρ[i]?) (hn : noOwn vs ρ = true) : SI G K (c.to S') σ H' ρ k ∧ H' D = some o ∧ ¬ S' D ∧ k.μ D = none := by
  have nD : ∀ a, c.H0 a ≠ none → a ≠ D := fun a h e => h (e ▸ h0)
  have H0e : ∀ a, a ≠ D → (c.blk D o).H0 a = c.H0 a := fun a h => if_neg h
  have notIn : ∀ i sv, ρ[i]? = some sv → sv.isOwn = true → i ∉ vs := fun i sv e ho hi => by
    have := List.all_eq_true.mp hn i hi
    rw [e] at this
    simp [ho] at this
  have st : ∀ i, i ∉ vs → slot σ2 i = slot σ i := fun i h => by unfold slot; rw [b i h]
  have oD : ((c.blk D o).to S').H0 D = some o := if_pos rfl
  have notpen : ∀ a, ¬ G.pens c a → ¬ G.pens ((c.blk D o).to S') a := fun a h z => h z
  have muD : ∀ a nd, k.μ a = some nd → c.mu a ∨ c.H0 a = none := fun a nd e => (J.mu a nd e).2.2.1.imp id fun h => by
    by_cases z : a = D
    · rw [z, oD] at h; cases h
    · exact (H0e a z).symm.trans h
  have mD : k.μ D = none := by
    cases e : k.μ D with
    | none => rfl
    | some nd =>
      rcases (J.mu D nd e).2.2.1 with h | h
      · exact absurd h0 (I.mu0 D h).2
      · rw [oD] at h; cases h
  refine ⟨⟨I.len, fun i sv e => ?_, fun i sv a e ho es => ?_, I.apart, J.dom, fun a u e hp => ?_, fun p e => ?_, fun a h => ⟨(J.no a (.inl h)).1, (I.no a h).2⟩, fun q e => ⟨(I.tab q e).1, (J.tab q e).2⟩, fun a nd e => ⟨(J.mu a nd e).1, (J.mu a nd e).2.1, muD a nd e, (J.mu a nd e).2.2.2⟩, fun a h => ⟨(J.mu0 a h).1, (I.mu0 a h).2⟩, J.mz⟩, ?_, (J.no D (.inr rfl)).1, mD⟩
  · by_cases ho : sv.isOwn = true
    · have hi := notIn i sv e ho
      have q := J.slots i sv (by rw [be i hi]; exact e)
      rw [st i hi] at q
      cases sv with
      | own xs => exact q
      | ownK xs => exact q
      | _ => cases ho
    · exact (I.slots i sv e).grow g fun a _ h => absurd h ho
  · have hi := notIn i sv e ho
    have q := J.own i sv a (by rw [be i hi]; exact e) ho (by rw [st i hi]; exact es)
    exact ⟨q.1, (I.own i sv a e ho es).2.1, q.2.2⟩
  · exact J.fr a u (by rw [show ((c.blk D o).to S').H0 a = c.H0 a from H0e a (nD a (by rw [e]; exact fun z => nomatch z))]; exact e) (notpen a hp)
  · obtain ⟨h1, h2, h3, _, _⟩ := J.pen p e
    obtain ⟨_, _, _, h4, h5⟩ := I.pen p e
    exact ⟨h1, h2, h3, h4, h5⟩
  · exact J.fr D o oD (notpen D (I.penOld h0))
end

section
variable {G : PenK} {X : Cx} {Wx : WX}
/-- a block's tests -/
def Ts (G : PenK) (X : Cx) (es : List Expr) (g : Env → W Bool) : Prop := PTs X es (tT G X WF g)
theorem ts_nil : Ts G X [] (fun _ => ret true) := ⟨fun pins s σ H Q I ⟨c, ρ, n, P, PX, I', q, hg, hx⟩ => pts_nil.run pins s σ H Q I (hg true n c.S H q .refl I')⟩
theorem ts_one {e : Expr} {g : Env → W Bool} (h : T G X WF e g) : Ts G X [e] g := pts_one h
theorem lc_body {t : Tg} {gt : Env → W Bool} {ge : Env → W D} {vs : List Nat} {c : C} {σ : L2.St} {ρ : Env} {H H' : Hp} {S' : Addr → Prop} {k : Nt} {xs : List D} {J : It} {P : List D → Nt → Prop} {Q : VK} (hix : ∀ i ∈ t.ix, i ∈ vs) (hg : GlO G X c σ ρ H P Q) (hz : xs.length ≤ sizeLine) (hno : noOwn vs ρ = true)
    (p : compW t gt ge (wip vs ρ) xs k P fun _ _ => False) (g : Grow c.S S' H H') (I' : SI G X.K (c.to S') σ H' ρ k) (wk : Walks G X.K J S' H' xs) : tLc (fun _ H R => R J H) (gT X.K t) (tT G X WF gt) (tE G X WF ge) vs σ H' Q := fun D hD => by
    have h0 : c.H0 D = none := I'.freeOld hD
    have hS : ¬ S' D := I'.freeS hD
    have hM : k.μ D = none := I'.freeM hD
    have hO : ¬ ownS ρ σ D := fun z => I'.own_there z hD
    obtain ⟨ID, gD⟩ := SI.put (o := .lst []) I' h0 hS hM hO
    -- the turns
    refine ⟨fun i m H2 => m = xs.length - i ∧ i ≤ xs.length ∧ ∃ S2 k2 acc vac, Grow S' S2 H' H2 ∧ SI G X.K (c.to S2) σ H2 ρ k2 ∧ H2 D = some (.lst vac) ∧ ¬ S2 D ∧ k2.μ D = none ∧ Reps X.K S2 H2 acc vac ∧ acc.length ≤ i ∧ compW t gt ge (wip vs ρ) (xs.drop i) k2 (fun ys k => P (acc ++ ys) k) (fun _ _ => False),
      ⟨_, rfl, Nat.zero_le _, S', k, [], [], gD, ID, upd_same, hS, hM, rfl, Nat.le_refl _, p⟩, ?_⟩
    rintro i m H2 ⟨rfl, hi2, S2, k2, acc, vac, g2, I2, e2, n2, m2, r2, l2, p2⟩
    obtain ⟨w1, w2⟩ := wk (c.to S2) ρ σ H2 k2 i g2 I2
    by_cases hlt : i < xs.length
    · obtain ⟨go, yl⟩ := w1 hlt
      refine .inr ⟨go, fun H3 => ∃ S3 k3 acc vac, Grow S' S3 H' H3 ∧ SI G X.K (c.to S3) σ H3 ρ k3 ∧ H3 D = some (.lst vac) ∧ ¬ S3 D ∧ k3.μ D = none ∧ Reps X.K S3 H3 acc vac ∧ acc.length ≤ i + 1 ∧ compW t gt ge (wip vs ρ) (xs.drop (i + 1)) k3 (fun ys k => P (acc ++ ys) k) (fun _ _ => False),
        fun H3 q => ⟨xs.length - (i + 1), by omega, rfl, hlt, q⟩, fun v H3 y => ?_⟩
      -- the walk may look at the list too: it is kept by the block's ghost
      obtain ⟨wb, _⟩ := wk ((c.to S2).blk D (.lst vac)) ρ σ H2 k2 i g2 (SI.blk (c := c.to S2) I2 e2 h0 n2 m2 hO)
      obtain ⟨_, yb⟩ := wb hlt
      obtain ⟨S3, x, g3, I3, ex, r3⟩ := yb v H3 y
      have ed : xs.drop i = x :: xs.drop (i + 1) := by
        rw [List.drop_eq_getElem_cons hlt]
        rw [List.getElem?_eq_getElem hlt] at ex
        cases ex
        rfl
      rw [ed] at p2
      refine gT_ok t (SI.wipe vs I3) r3 p2 fun ρ4 k4 σ4 p4 I4 b4 be4 => ⟨wipe_but b4 hix, ⟨_, ρ4, k4, fun b k => (if b = true then bnd (ge ρ4) fun y => bnd (compW t gt ge (wip vs ρ) (xs.drop (i + 1))) fun ys => ret (y :: ys) else compW t gt ge (wip vs ρ) (xs.drop (i + 1))) k (fun ys k => P (acc ++ ys) k) (fun _ _ => False), fun _ _ => False, I4, p4, fun b k5 S5 H5 p5 g5 I5 => ?_, fun _ _ _ _ _ _ z => z.elim⟩⟩
      have outσ : ∀ i, i ∉ vs → σ4[i]? = σ[i]? := fun i h => (b4.2 i fun z => h (hix i z)).trans (wipe_out vs σ i h)
      have outρ : ∀ i, i ∉ vs → ρ4[i]? = ρ[i]? := fun i h => (be4.2 i fun z => h (hix i z)).trans (wip_out vs ρ i h)
      have g25 : Grow S2 S5 H2 H5 := g3.trans g5
      cases b with
      | false =>
        obtain ⟨J5, eD5, nD5, mD5⟩ := SI.restore (vs := vs) (c := c.to S2) I2 h0 I5 g25 outσ outρ hno
        exact iteF ⟨S5, k5, acc, vac, g2.trans g25, J5, eD5, nD5, mD5, Reps.grow g25 _ _ r2, Nat.le_succ_of_le l2, p5⟩
      | true =>
        refine iteT (tE.bnd I5 p5 (fun _ _ _ _ _ _ z => z.elim) fun d k6 u S6 H6 p6 g6 I6 _ r6 => ?_)
        have g26 : Grow S2 S6 H2 H6 := g25.trans g6
        obtain ⟨J6, eD6, nD6, mD6⟩ := SI.restore (vs := vs) (c := c.to S2) I2 h0 I6 g26 outσ outρ hno
        have r26 := Reps.grow g26 _ _ r2
        refine ⟨vac, eD6, by rw [r2.len]; omega, S6, k6, acc ++ [d], vac ++ [u], ?_, ?_, upd_same, nD6, mD6, ?_, by rw [List.length_append]; show acc.length + 1 ≤ i + 1; omega, ?_⟩
        · exact (g2.trans g26).trans (SI.put (o := .lst (vac ++ [u])) J6 h0 nD6 mD6 hO).2
        · exact (SI.put (o := .lst (vac ++ [u])) J6 h0 nD6 mD6 hO).1
        · exact Reps.grow (SI.put (o := .lst (vac ++ [u])) J6 h0 nD6 mD6 hO).2 _ _ (Reps.app r26 (Reps.one r6))
        · have e : (fun (ys : List PL.D) (k : Nt) => P ((acc ++ [d]) ++ ys) k) = fun ys k => P (acc ++ (d :: ys)) k := by
            funext ys k
            rw [List.append_assoc]
            rfl
          rw [e]
          exact p6
    · have e : i = xs.length := by omega
      subst e
      rw [List.drop_length] at p2
      have p2' : P acc k2 := by
        have q : P (acc ++ []) k2 := p2
        rwa [List.append_nil] at q
      exact .inl ⟨w2 (Nat.le_refl _), hg acc k2 D vac S2 H2 p2' (g.trans g2) I2 e2 (by have : xs.length ≤ sizeLine := hz; omega) r2 ⟨⟨n2, h0, m2⟩, fun i sv e ho es => hO ⟨i, sv, e, ho, es⟩⟩⟩
theorem lc_law {t : Tg} {g : Env → W (List D)} {gt : Env → W Bool} {ge : Env → W D} {vs : List Nat} {σ : L2.St} {H : Hp} {Q : VK} (hix : ∀ i ∈ t.ix, i ∈ vs)
    (hh : tO G X Wx (fun ρ => bnd (g ρ) fun xs => few xs (grd (noOwn vs ρ = true) (quiet (compW t gt ge (wip vs ρ) xs)))) σ H Q) : tLc (tI G X Wx g) (gT X.K t) (tT G X WF gt) (tE G X WF ge) vs σ H Q := by
    obtain ⟨c, ρ, n, P, PX, I, q, hg, hx⟩ := hh
    exact ⟨c, ρ, n, fun xs k => few xs (grd (noOwn vs ρ = true) (quiet (compW t gt ge (wip vs ρ) xs))) k P PX, PX, I, q, fun xs k S' H' J ⟨hz, hno, p⟩ g I' wk => lc_body hix hg hz hno p g I' wk, hx⟩
theorem o_lc {elt tg iter : Expr} {ifs : List Expr} {scope : Scope} {own : List (Str × Nat)} {pos : Pos} {t : Tg} {g : Env → W (List D)} {gt : Env → W Bool} {ge : Env → W D} (hc : X.calm = true) (hN : X.N.Nodup) (hi : Wk G X Wx tg iter g) (ok : BlkOk X.N X.env.scope scope own)
    (hg : ∀ (s : Shared) (H : Hp) (A : Addr) (cl : List (Str × Addr)) (fp : List Addr), PTg (X.blk s H scope (compEnvC scope cl A X.env) fp) tg t) (ht : ∀ (s : Shared) (H : Hp) (A : Addr) (cl : List (Str × Addr)) (fp : List Addr), Ts G (X.blk s H scope (compEnvC scope cl A X.env) fp) ifs gt)
    (he : ∀ (s : Shared) (H : Hp) (A : Addr) (cl : List (Str × Addr)) (fp : List Addr), E G (X.blk s H scope (compEnvC scope cl A X.env) fp) WF elt ge) (hix : ∀ i ∈ t.ix, i ∈ own.map (·.2) := by decide) (hs : ∀ x, foldedSetIterable iter X.env x = pure x := by intro _; rfl) :
    EO G X Wx (.ListComp elt [⟨tg, iter, ifs, 0⟩] scope pos) (fun ρ => bnd (g ρ) fun xs => few xs (grd (noOwn (own.map (·.2)) ρ = true) (quiet (compW t gt ge (wip (own.map (·.2)) ρ) xs)))) :=
  weakE (pe_lc (g := gT X.K t) (tt := tT G X WF gt) (te := tE G X WF ge) hc hN hi ok hg ht he hs) fun σ H Q q => lc_law hix q
/-- name = [..] on one line, the name a local -/
theorem s_asgLc {y : Str} {py spos : Pos} {elt tg iter : Expr} {ifs : List Expr} {scope : Scope} {own : List (Str × Nat)} {pos : Pos} {t : Tg} {g : Env → W (List D)} {gt : Env → W Bool} {ge : Env → W D} (i : Nat) (hc : X.calm = true) (hN : X.N.Nodup) (hi : Wk G X Wx tg iter g) (ok : BlkOk X.N X.env.scope scope own)
    (hg : ∀ (s : Shared) (H : Hp) (A : Addr) (cl : List (Str × Addr)) (fp : List Addr), PTg (X.blk s H scope (compEnvC scope cl A X.env) fp) tg t) (ht : ∀ (s : Shared) (H : Hp) (A : Addr) (cl : List (Str × Addr)) (fp : List Addr), Ts G (X.blk s H scope (compEnvC scope cl A X.env) fp) ifs gt)
    (he : ∀ (s : Shared) (H : Hp) (A : Addr) (cl : List (Str × Addr)) (fp : List Addr), E G (X.blk s H scope (compEnvC scope cl A X.env) fp) WF elt ge) (hy : X.N[i]? = some y := by rfl) (hyl : X.env.scope.names.lookup y = some .local := by rfl) (hix : ∀ i ∈ t.ix, i ∈ own.map (·.2) := by decide)
    (hk : X.env.scope.kind = .function := by rfl) (hln : (py.line == pos.line) = true := by rfl) (hsc : (scope.names.any fun (n, k) => n == y && (k == .local || k == .cell)) = false := by rfl) (hs : ∀ x, foldedSetIterable iter X.env x = pure x := by intro _; rfl) :
    St1 G X Wx (.Assign [.Name y py] (.ListComp elt [⟨tg, iter, ifs, 0⟩] scope pos) spos) (fun ρ => bnd (bnd (g ρ) fun xs => few xs (grd (noOwn (own.map (·.2)) ρ = true) (quiet (compW t gt ge (wip (own.map (·.2)) ρ) xs)))) fun xs => ret (.nx (ρ.set i (.d (.lst xs))))) :=
  weakS (ps_setLc (g := gT X.K t) (tt := tT G X WF gt) (te := tE G X WF ge) hc hN hy hyl (sw_true hk hyl hln hsc) hi ok hg ht he hs) fun Dn σ H ⟨c, ρ, n, P, PX, I, q, hg, hx⟩ =>
    lc_law hix (tO.bnd I q hx.x fun xs k a vs S' H' p g I' hx' e z r f => by
      obtain ⟨I2, g2⟩ := I'.adopt f (by rw [e]; exact fun z => nomatch z)
      exact hg.1 _ k _ _ H' p (g.trans g2) (I2.set (i := i) (d := .lst xs) (v := .ref a) ⟨a, vs, rfl, ⟨.inr rfl, e⟩, z, Reps.grow g2 _ _ r⟩))
end
end PL

/-! The layer: defs and their calls. -/
namespace PL
open PySem PySem.Spec PyProof.Rows L2

/-! ### a def's promise, where no repr is under way -/
structure FnG (P : Program) (w : World) (K : PySem.W.Frag) (mg : Str → Option Value) (base : Heap) (k : Nat) (f : Addr) (fd : FuncData) (ps : List Str) (sp : Sp) : Prop where
  len : ∀ vs H Q E, sp vs H Q E → vs.length = ps.length
  run : ∀ (A : Around) (outer : List PySem.Env) (s : Shared) (H : Hp) (args : Args) (us : List Value) (vs : List V) (Q : VK) (E : XK), A.guards = some [] → Room k A → Env0 P w K mg base A outer s H →
    BindsTo s fd args (ps.zip us) → Vals vs us → sp vs H Q E → codeAny (model P w) A (.call (.ref f) args) (CR (L2.CX P w) outer P w H s Q E) s
theorem FnG.mono {P : Program} {w : World} {K : PySem.W.Frag} {mg : Str → Option Value} {base : Heap} {j k : Nat} {f : Addr} {fd : FuncData} {ps : List Str} {sp : Sp} (F : FnG P w K mg base j f fd ps sp) (h : j ≤ k) : FnG P w K mg base k f fd ps sp :=
  ⟨F.len, fun A outer s H args us vs Q E hg hr => F.run A outer s H args us vs Q E hg (hr.mono h)⟩
theorem FnG.imp {P : Program} {w : World} {K : PySem.W.Frag} {mg : Str → Option Value} {base : Heap} {k : Nat} {f : Addr} {fd : FuncData} {ps : List Str} {sp sp' : Sp} (F : FnG P w K mg base k f fd ps sp)
    (h : ∀ vs H Q E, sp' vs H Q E → sp vs H Q E) : FnG P w K mg base k f fd ps sp' :=
  ⟨fun vs H Q E q => F.len vs H Q E (h _ _ _ _ q), fun A outer s H args us vs Q E hg hr he hb hv hs => F.run A outer s H args us vs Q E hg hr he hb hv (h _ _ _ _ hs)⟩

theorem FnG.of_bodyC {P : Program} {w : World} {K : PySem.W.Frag} {mg : Str → Option Value} {base : Heap} {k : Nat} {f : Addr} {fd : FuncData} {x qual : Str} {st : Stmt} {N ps : List Str} {sp : Sp} (F : Fun K x qual st f fd) (S : FnScope N ps (defScope st))
    (len : ∀ vs H Q E, sp vs H Q E → vs.length = ps.length)
    (body : ∀ (cdv : Value) (A : Around) (outer : List PySem.Env) (s : Shared) (H : Hp) (vs : List V) (Q : VK) (E : XK), fd.code = cdv → A.guards = some [] → Room k (A.deeper (envOfC qual (defScope st) s.heap.objs.size f cdv)) → sp vs H Q E →
      ∃ t, PSs (cxOf (L2.CX P w) P w K mg base N qual (defScope st) f cdv A outer s H E) (defBody st) t ∧ t { nx := fun _ H' => Q .non H', rt := Q } (L2.start N vs) H) : FnG P w K mg base (k + 1) f fd ps sp := by
  obtain ⟨oc, od, kV, doc, pm, an, cdv, ct, osl, rfl, lk, hcd⟩ := F.ex
  refine ⟨len, fun A outer s H args us vs Q E hg hr e0 hb r hsp => ?_⟩
  have hk : K.In s.heap := e0.mod.kin.keeps fun b o e => (e0.bs b o e).1
  have hlim : s.heap.NoLimit := e0.mod.nolimit.keeps fun b o e => (e0.bs b o e).1
  have loc : ∀ y ∈ ps.zip us, (defScope st).names.lookup y.1 = some .local ∨ ((defScope st).names.lookup y.1 = some .cell ∧ ((cellsFrom (s.heap.objs.size + 1) (defScope st).names []).lookup y.1).isSome = true) := by
    rintro ⟨y, v⟩ hy
    cases S.par y (List.of_mem_zip hy).1 with
    | inl q => exact Or.inl q
    | inr q => exact Or.inr ⟨q, PySem.W.cellsFrom_some _ _ _ (Or.inl q)⟩
  refine codeAny_call_function hr.depth (hk _ _ lk) rfl S.co S.gen rfl (PySem.W.codeRec_of hk hcd) (hb _ _ _ _ (wpAny_newFunctionEnv_cells S.kind loc ?_))
  rintro env rfl s1 hin
  refine ⟨hlim.keeps hin.toInCall.keep, codeAny_func ?_⟩
  obtain ⟨t, ht, hq⟩ := body cdv A outer s H vs Q E rfl hg (hr.deeper _) hsp
  have J := inv_start (CX := L2.CX P w) (E := E) (mg := mg) (base := base) S hr.hd e0 (len _ _ _ _ hsp) r hin
  refine wpAny_mono (ht.run [] s1 (L2.start N vs) H _ J hq) (fun fl s' hs => ?_) fun _ _ z => z
  cases fl with
  | ret u => obtain ⟨v, σ', H', J', rv, q⟩ := hs; exact ⟨v, H', J'.os, J'.bare, J'.base, J'.hok, rv, q⟩
  | next => obtain ⟨σ', H', J', q⟩ := hs; exact ⟨.non, H', J'.os, J'.bare, J'.base, J'.hok, rfl, q⟩
  | brk => obtain ⟨_, _, _, q⟩ := hs; exact q.elim
  | cont => obtain ⟨_, _, _, q⟩ := hs; exact q.elim

theorem FnG.of_body {P : Program} {w : World} {K : PySem.W.Frag} {mg : Str → Option Value} {base : Heap} {k : Nat} {f : Addr} {fd : FuncData} {x qual : Str} {st : Stmt} {N ps : List Str} {sp : Sp} (F : Fun K x qual st f fd) (S : FnScope N ps (defScope st))
    (len : ∀ vs H Q E, sp vs H Q E → vs.length = ps.length)
    (body : ∀ (cdv : Value) (A : Around) (outer : List PySem.Env) (s : Shared) (H : Hp) (vs : List V) (Q : VK) (E : XK), A.guards = some [] → Room k (A.deeper (envOfC qual (defScope st) s.heap.objs.size f cdv)) → sp vs H Q E →
      ∃ t, PSs (cxOf (L2.CX P w) P w K mg base N qual (defScope st) f cdv A outer s H E) (defBody st) t ∧ t { nx := fun _ H' => Q .non H', rt := Q } (L2.start N vs) H) : FnG P w K mg base (k + 1) f fd ps sp :=
  FnG.of_bodyC F S len fun cdv A outer s H vs Q E _ => body cdv A outer s H vs Q E

/-! ### promises over data -/
def ArgOk (K : PySem.W.Frag) (S : Addr → Prop) (H : Hp) (pen : Option (Addr × Addr)) : SV → V → Prop
  | .d x, v => Rep K S H x v
  | .pen, v => ∃ p, pen = some p ∧ v = .ref p.1
  | .lam f c q σ ds, v => v = .ref f ∧ LamOk K S H c q σ ds
  | .o a, v => v = .ref a
  | _, _ => False
def ArgsOk (K : PySem.W.Frag) (S : Addr → Prop) (H : Hp) (pen : Option (Addr × Addr)) : List SV → List V → Prop
  | [], vs => vs = []
  | x :: xs, vs => ∃ v ws, vs = v :: ws ∧ ArgOk K S H pen x v ∧ ArgsOk K S H pen xs ws
/-- the objects that are changed, as a callee finds them -/
def MuOk (G : PenK) (K : PySem.W.Frag) (S : Addr → Prop) (H : Hp) (pen : Option (Addr × Addr)) (n : Nt) : Prop :=
  (∀ a nd, n.μ a = some nd → NdOk K S H a nd ∧ ¬ S a ∧ (∀ p, pen = some p → a ≠ p.1 ∧ a ≠ p.2) ∧ ∀ q ∈ G.tab, a ≠ q.1) ∧ (G.chg = false → ∀ a, n.μ a = none)
structure After (G : PenK) (K : PySem.W.Frag) (S S' : Addr → Prop) (pen : Option (Addr × Addr)) (n : Nt) (H H' : Hp) (k : Nt) : Prop where
  grow : Grow S S' H H'
  dom : ∀ a, S' a → H' a ≠ none
  new : ∀ a, S' a → S a ∨ H a = none
  fr : ∀ a o, H a = some o → (∀ p, pen = some p → a ≠ p.1 ∧ a ≠ p.2) → (∀ q ∈ G.tab, a ≠ q.1) → n.μ a = none → H' a = some o
  tab : ∀ q ∈ G.tab, TabI S' H' q.1 q.2
  pen : ∀ p, pen = some p → G.inv H' p.1 p.2 k.n ∧ ¬ S' p.1 ∧ ¬ S' p.2
  mu : ∀ a nd, k.μ a = some nd → NdOk K S' H' a nd ∧ ¬ S' a ∧ (n.μ a ≠ none ∨ H a = none)
  mu0 : ∀ a, n.μ a ≠ none → k.μ a ≠ none
  mz : G.chg = false → ∀ a, k.μ a = none
def spM (G : PenK) (K : PySem.W.Frag) (mg : Str → Option Value) (ps : Nat) (m : List SV → W D) : Sp := fun vs H Q E =>
  ∃ (S : Addr → Prop) (pen : Option (Addr × Addr)) (args : List SV) (n : Nt) (P : D → Nt → Prop) (PX : Exc → Nt → Prop),
    args.length = ps ∧ (∀ a, S a → H a ≠ none) ∧ (∀ p, pen = some p → G.inv H p.1 p.2 n.n ∧ ¬ S p.1 ∧ ¬ S p.2) ∧ (∀ q ∈ G.tab, ¬ S q.1 ∧ TabI S H q.1 q.2) ∧ MuOk G K S H pen n ∧ ArgsOk K S H pen args vs ∧ m args n P PX ∧
    (∀ d k v S' H', P d k → After G K S S' pen n H H' k → Rep K S' H' d v → Q v H') ∧ ∀ x k S' H' cls dd, PX x k → After G K S S' pen n H H' k → RepX K mg S' H' x cls dd → E cls dd H'
section
variable {K : PySem.W.Frag} {S : Addr → Prop} {H : Hp} {pen : Option (Addr × Addr)}
theorem ArgsOk.len : ∀ {xs : List SV} {vs : List V}, ArgsOk K S H pen xs vs → vs.length = xs.length
  | [], _, h => by
    have e : _ = [] := h
    rw [e]
    rfl
  | _ :: xs, _, h => by
    obtain ⟨v, ws, rfl, _, q⟩ := h
    show ws.length + 1 = xs.length + 1
    rw [ArgsOk.len q]
theorem ArgsOk.get : ∀ {xs : List SV} {vs : List V} {i : Nat} {x : SV}, ArgsOk K S H pen xs vs → xs[i]? = some x → ∃ v, vs[i]? = some v ∧ ArgOk K S H pen x v
  | [], _, _, _, _, e => nomatch e
  | y :: xs, _, 0, x, h, e => by
    obtain ⟨v, ws, rfl, r, _⟩ := h
    cases e
    exact ⟨v, rfl, r⟩
  | y :: xs, _, i + 1, x, h, e => by
    obtain ⟨v, ws, rfl, _, q⟩ := h
    exact ArgsOk.get (i := i) q e
theorem ArgsOk.app : ∀ {xs ys : List SV} {vs ws : List V}, ArgsOk K S H pen xs vs → ArgsOk K S H pen ys ws → ArgsOk K S H pen (xs ++ ys) (vs ++ ws)
  | [], ys, vs, ws, h, q => by
    have e : vs = [] := h
    rw [e]
    exact q
  | x :: xs, ys, vs, ws, h, q => by
    obtain ⟨v, us, rfl, r, t⟩ := h
    exact ⟨v, us ++ ws, rfl, r, ArgsOk.app t q⟩
theorem ArgOk.grow {S' : Addr → Prop} {H' : Hp} (g : Grow S S' H H') : ∀ {x : SV} {v : V}, ArgOk K S H pen x v → ArgOk K S' H' pen x v
  | .d x, v, h => Rep.grow g x v h
  | .pen, _, h => h
  | .un, _, h => h.elim
  | .own _, _, h => h.elim
  | .ownK _, _, h => h.elim
  | .exc _, _, h => h.elim
  | .lam _ _ _ _ _, _, h => ⟨h.1, h.2.grow g⟩
  | .o _, _, h => h
theorem ArgsOk.grow {S' : Addr → Prop} {H' : Hp} (g : Grow S S' H H') : ∀ {xs : List SV} {vs : List V}, ArgsOk K S H pen xs vs → ArgsOk K S' H' pen xs vs
  | [], _, h => h
  | x :: xs, _, h => by
    obtain ⟨v, ws, e, r, q⟩ := h
    exact ⟨v, ws, e, r.grow g, ArgsOk.grow g q⟩
end

section
variable {G : PenK} {P : Program} {w : World} {K : PySem.W.Frag} {mg : Str → Option Value} {base : Heap}
theorem start_slot {N : List Str} {vs : List V} {i : Nat} : slot (L2.start N vs) i = vs[i]? := by
  unfold slot L2.start
  by_cases h : i < vs.length
  · rw [List.getElem?_append_left (by rw [List.length_map]; exact h), List.getElem?_map, List.getElem?_eq_getElem h]
    rfl
  · rw [List.getElem?_append_right (by rw [List.length_map]; omega), List.getElem?_replicate, List.getElem?_eq_none (by omega)]
    split <;> rfl
/-- the state at a body's entry -/
theorem SI.entry {S : Addr → Prop} {H : Hp} {pen : Option (Addr × Addr)} {args : List SV} {vs : List V} {N : List Str} {n : Nt} (hl : args.length ≤ N.length) (dom : ∀ a, S a → H a ≠ none) (hp : ∀ p, pen = some p → G.inv H p.1 p.2 n.n ∧ ¬ S p.1 ∧ ¬ S p.2) (ht : ∀ q ∈ G.tab, ¬ S q.1 ∧ TabI S H q.1 q.2) (hm : MuOk G K S H pen n)
    (r : ArgsOk K S H pen args vs) : SI G K ⟨S, H, pen, fun a => H a ≠ none ∧ ¬ S a, fun a => n.μ a ≠ none⟩ (L2.start N vs) H (args ++ List.replicate (N.length - args.length) SV.un) n := by
  have lv := r.len
  have key : ∀ (i : Nat) (sv : SV), (args ++ List.replicate (N.length - args.length) SV.un)[i]? = some sv → sv = .un ∨ args[i]? = some sv := fun i sv e => by
    by_cases h : i < args.length
    · rw [List.getElem?_append_left h] at e
      exact .inr e
    · rw [List.getElem?_append_right (by omega), List.getElem?_replicate] at e
      split at e
      · exact .inl (Option.some.inj e).symm
      · cases e
  have noO : ∀ (i : Nat) (sv : SV), (args ++ List.replicate (N.length - args.length) SV.un)[i]? = some sv → sv.isOwn = true → False := fun i sv e ho => by
    rcases key i sv e with rfl | e
    · cases ho
    · obtain ⟨v, _, q⟩ := r.get e
      cases sv with
      | own _ => exact q
      | ownK _ => exact q
      | _ => cases ho
  refine ⟨?_, fun i sv e => ?_, fun i sv a e ho => (noO i sv e ho).elim, fun i j sv sv' a _ e _ ho => (noO i sv e ho).elim, dom, fun a o e _ => e, fun p e => ?_, fun a h => ⟨h.2, h.1⟩, fun q e => ⟨⟨(ht q e).2.there, (ht q e).1⟩, (ht q e).2⟩, fun a nd e => ⟨(hm.1 a nd e).1, (hm.1 a nd e).2.1, .inl (by show n.μ a ≠ none; rw [e]; exact fun z => nomatch z), fun z => ?_⟩, fun a h => ⟨h, ?_⟩, hm.2⟩
  · unfold L2.start
    rw [List.length_append, List.length_replicate, List.length_append, List.length_map, List.length_replicate, lv]
  · rcases key i sv e with rfl | e
    · trivial
    · obtain ⟨v, e2, q⟩ := r.get e
      rw [start_slot, e2]
      cases sv with
      | d x => exact ⟨v, rfl, q⟩
      | pen => obtain ⟨p, h1, h2⟩ := q; exact ⟨p, h1, by rw [h2]⟩
      | un => trivial
      | own _ => exact q.elim
      | ownK _ => exact q.elim
      | exc _ => exact q.elim
      | lam _ _ _ _ _ => exact ⟨by rw [q.1], q.2⟩
      | o _ => exact congrArg some q
  · obtain ⟨h1, h2, h3⟩ := hp p e
    obtain ⟨k1, k2⟩ := G.there h1
    exact ⟨h1, h2, h3, k1, k2⟩
  · rcases z with ⟨p, e2, z⟩ | ⟨q, e2, z⟩
    · exact z.elim ((hm.1 a nd e).2.2.1 p e2).1 ((hm.1 a nd e).2.2.1 p e2).2
    · exact (hm.1 a nd e).2.2.2 q e2 z
  · obtain ⟨nd, e⟩ := Option.ne_none_iff_exists'.mp h
    exact (hm.1 a nd e).1.there
theorem SI.after {S S' : Addr → Prop} {H H' : Hp} {pen : Option (Addr × Addr)} {σ : L2.St} {ρ : Env} {n k : Nt} (g : Grow S S' H H') (I : SI G K ⟨S', H, pen, fun a => H a ≠ none ∧ ¬ S a, fun a => n.μ a ≠ none⟩ σ H' ρ k) : After G K S S' pen n H H' k := by
  refine ⟨g, I.dom, fun a h => ?_, fun a o e h ht hn => I.fr a o e fun z => z.elim (fun z => z.elim (fun ⟨p, e2, z⟩ => z.elim (h p e2).1 (h p e2).2) (fun ⟨q, e2, z⟩ => ht q e2 z)) fun z => z hn, fun q e => (I.tab q e).2, fun p e => ?_, fun a nd e => ⟨(I.mu a nd e).1, (I.mu a nd e).2.1, (I.mu a nd e).2.2.1⟩, fun a h => (I.mu0 a h).1, I.mz⟩
  · by_cases hs : S a
    · exact .inl hs
    · exact .inr (Classical.byContradiction fun z => (I.no a ⟨z, hs⟩).1 h)
  · obtain ⟨h1, h2, h3, _⟩ := I.pen p e
    exact ⟨h1, h2, h3⟩
end

/-! ### arguments of a def -/
section
variable {G : PenK} {X : Cx} {Wx : WX}
def GlV (G : PenK) (X : Cx) (c : C) (σ : L2.St) (ρ : Env) (H : Hp) (P : List SV → Nt → Prop) (Q : List V → Hp → Prop) : Prop :=
  ∀ ds k vs S' H', P ds k → Grow c.S S' H H' → SI G X.K (c.to S') σ H' ρ k → ArgsOk X.K S' H' c.pen ds vs → Q vs H'
def tVr (G : PenK) (X : Cx) (Wx : WX) (g : Env → W (List SV)) : TA := fun σ H Q => ∃ c ρ n P PX, SI G X.K c σ H ρ n ∧ g ρ n P PX ∧ GlV G X c σ ρ H P Q ∧ OKx G X Wx c σ ρ H PX
def AV (G : PenK) (X : Cx) (Wx : WX) (es : List Expr) (g : Env → W (List SV)) : Prop := PA X es (tVr G X Wx g)
def KV (G : PenK) (X : Cx) (Wx : WX) (kws : List Keyword) (g : Env → W (List SV)) : Prop := PK X kws (tVr G X Wx g)
theorem v_nil : AV G X Wx [] (fun _ => ret []) := weakA pa_nil fun σ H Q ⟨c, ρ, n, P, PX, I, q, hg, hx⟩ => hg [] n [] c.S H q .refl I rfl
theorem v_cons {e : Expr} {es : List Expr} {g : Env → W D} {gs : Env → W (List SV)} (h : E G X Wx e g) (hs : AV G X Wx es gs) (hp : starEach (e :: es) X.env = (false, eval e X.env) :: starEach es X.env := by rfl) :
    AV G X Wx (e :: es) (fun ρ => bnd (g ρ) fun x => bnd (gs ρ) fun xs => ret (.d x :: xs)) :=
  weakA (pa_cons h hs hp) fun σ H Q ⟨c, ρ, n, P, PX, I, q, hg, hx⟩ => tE.bnd I q hx fun d k u S' H' p g I' hx' r =>
    ⟨c.to S', ρ, k, fun ds k => P (.d d :: ds) k, PX, I', p, fun ds k2 us S2 H2 p2 g2 I2 r2 => hg (.d d :: ds) k2 (u :: us) S2 H2 p2 (g.trans g2) I2 ⟨u, us, rfl, Rep.grow g2 _ _ r, r2⟩, hx'⟩
def isPen (ρ : Env) (i : Nat) {α : Type} (m : W α) : W α := match ρ[i]? with
  | some .pen => m
  | _ => stuck
theorem isPen_inv {ρ : Env} {i : Nat} {α : Type} {m : W α} {n : Nt} {P : α → Nt → Prop} {PX : Exc → Nt → Prop} (h : isPen ρ i m n P PX) : ρ[i]? = some .pen ∧ m n P PX := by
  unfold isPen at h
  cases e : ρ[i]? with
  | none => rw [e] at h; exact h.elim
  | some sv =>
    rw [e] at h
    cases sv with
    | pen => exact ⟨rfl, h⟩
    | _ => exact h.elim
theorem v_pen {x : Str} {pos : Pos} {es : List Expr} {gs : Env → W (List SV)} (i : Nat) (hs : AV G X Wx es gs) (hN : X.N[i]? = some x := by rfl) (hv : Vis X.env.scope x := by first | exact Or.inl rfl | exact Or.inr (Or.inl rfl) | exact Or.inr (Or.inr rfl)) (hd : (x == ("__debug__" : Str)) = false := by decide)
    (hcd : (x == ("__classdict__" : Str)) = false := by decide) (hp : starEach (.Name x pos :: es) X.env = (false, eval (.Name x pos) X.env) :: starEach es X.env := by rfl) : AV G X Wx (.Name x pos :: es) (fun ρ => isPen ρ i (bnd (gs ρ) fun xs => ret (.pen :: xs))) :=
  weakA (pa_cons (pe_var hN hv hd hcd) hs hp) fun σ H Q ⟨c, ρ, n, P, PX, I, q, hg, hx⟩ => by
    obtain ⟨e, q⟩ := isPen_inv q
    obtain ⟨p, e1, e2⟩ := I.slots i _ e
    exact ⟨.ref p.1, slot_some e2, c, ρ, n, fun ds k => P (.pen :: ds) k, PX, I, q, fun ds k2 us S2 H2 p2 g2 I2 r2 => hg (.pen :: ds) k2 (.ref p.1 :: us) S2 H2 p2 g2 I2 ⟨_, us, rfl, ⟨p, e1, rfl⟩, r2⟩, hx⟩
/-- a call: one without the source of draws costs none -/
def callM (m : List SV → W D) (args : List SV) : W D :=
  if args.any (fun s => match s with | .pen => true | _ => false) then m args else fun n P PX => m args ⟨0, n.μ⟩ (fun d k => P d ⟨n.n, k.μ⟩) fun x k => PX x ⟨n.n, k.μ⟩
theorem ArgsOk.nopen {K : PySem.W.Frag} {S : Addr → Prop} {H : Hp} {pen : Option (Addr × Addr)} : ∀ {xs : List SV} {vs : List V}, xs.any (fun s => match s with | .pen => true | _ => false) = false → ArgsOk K S H pen xs vs → ArgsOk K S H none xs vs
  | [], _, _, h => h
  | x :: xs, _, e, h => by
    obtain ⟨v, ws, e1, r, q⟩ := h
    rw [List.any_cons, Bool.or_eq_false_iff] at e
    refine ⟨v, ws, e1, ?_, ArgsOk.nopen e.2 q⟩
    cases x with
    | pen => cases e.1
    | _ => exact r
/-- the caller's state behind a call -/
theorem SI.called {K : PySem.W.Frag} {c : C} {σ : L2.St} {ρ : Env} {H H' : Hp} {n k : Nt} {S' : Addr → Prop} {pen : Option (Addr × Addr)} (I : SI G K c σ H ρ n) (h : After G K c.S S' pen n H H' k) (hp : pen = c.pen ∨ (pen = none ∧ k.n = n.n)) : SI G K (c.to S') σ H' ρ k := by
  have keep : ∀ a o, H a = some o → ¬ G.pens c a → n.μ a = none → H' a = some o := fun a o e np nm => h.fr a o e (fun p ep => by
    rcases hp with z | z
    · exact ⟨fun q => np (.inl (.inl ⟨p, z ▸ ep, .inl q⟩)), fun q => np (.inl (.inl ⟨p, z ▸ ep, .inr q⟩))⟩
    · rw [z.1] at ep; cases ep) (fun q hq z => np (.inl (.inr ⟨q, hq, z⟩))) nm
  have nomu : ∀ a o, c.H0 a = some o → ¬ G.pens c a → n.μ a = none := fun a o e np => by
    cases q : n.μ a with
    | none => rfl
    | some nd =>
      rcases (I.mu a nd q).2.2.1 with z | z
      · exact absurd (.inr z) np
      · rw [e] at z; cases z
  refine ⟨I.len, fun i sv e => (I.slots i sv e).grow h.grow fun a ea ho => ?_, fun i sv a e ho es => ?_, I.apart, h.dom, fun a o e np => keep a o (I.fr a o e np) np (nomu a o e np), fun p e => ?_, fun a q => ?_, fun q e => ⟨(I.tab q e).1, h.tab q e⟩, fun a nd e => ?_, fun a q => ⟨h.mu0 a (I.mu0 a q).1, (I.mu0 a q).2⟩, h.mz⟩
  · have y := I.own i sv a e ho ea
    cases q : H a with
    | none => exact absurd q (I.own_there ⟨i, sv, e, ho, ea⟩)
    | some o => exact keep a o q (I.penOld y.2.1) y.2.2
  · have y := I.own i sv a e ho es
    refine ⟨fun z => (h.new a z).elim y.1 (I.own_there ⟨i, sv, e, ho, es⟩), y.2.1, ?_⟩
    cases q : k.μ a with
    | none => rfl
    | some nd => exact (h.mu a nd q).2.2.elim (fun z => absurd y.2.2 z) fun z => absurd z (I.own_there ⟨i, sv, e, ho, es⟩)
  · obtain ⟨h1, h2, h3, h4, h5⟩ := I.pen p e
    rcases hp with z | ⟨z, z2⟩
    · obtain ⟨k1, k2, k3⟩ := h.pen p (z ▸ e)
      exact ⟨k1, k2, k3, h4, h5⟩
    · obtain ⟨k1, k2⟩ := G.there h1
      have same : ∀ b, H b ≠ none → (∀ q ∈ G.tab, b ≠ q.1) → n.μ b = none → H' b = H b := fun b hb ht hn => by
        cases q : H b with
        | none => exact absurd q hb
        | some o => exact h.fr b o q (fun p' e' => by rw [z] at e'; cases e') ht hn
      have nt : ∀ b, (∃ xs, H b = some (.lst xs)) → ∀ q ∈ G.tab, b ≠ q.1 := fun b ⟨xs, e1⟩ q hq z => by
        obtain ⟨ps, e2, _⟩ := (I.tab q hq).2
        rw [← z, e1] at e2
        cases e2
      have pm : ∀ b, (b = p.1 ∨ b = p.2) → n.μ b = none := fun b hb => by
        cases q : n.μ b with
        | none => rfl
        | some nd => exact absurd (.inl ⟨p, e, hb⟩) (I.mu b nd q).2.2.2
      rw [z2]
      exact ⟨G.dep h1 (same _ k1 (nt _ (G.isL h1).1) (pm _ (.inl rfl))) (same _ k2 (nt _ (G.isL h1).2) (pm _ (.inr rfl))), fun q => (h.new _ q).elim h2 k1, fun q => (h.new _ q).elim h3 k2, h4, h5⟩
  · obtain ⟨h1, h2⟩ := I.no a q
    refine ⟨fun z => (h.new a z).elim h1 fun z => ?_, h2⟩
    have := I.freeOld z
    exact h2 this
  · obtain ⟨m1, m2, m3⟩ := h.mu a nd e
    refine ⟨m1, m2, ?_⟩
    rcases m3 with z | z
    · obtain ⟨nd0, e0⟩ := Option.ne_none_iff_exists'.mp z
      exact (I.mu a nd0 e0).2.2
    · refine ⟨.inr (I.freeOld z), fun w => ?_⟩
      rcases w with ⟨p, e2, w⟩ | ⟨q, e2, w⟩
      · obtain ⟨k1, k2⟩ := G.there (I.pen p e2).1
        exact w.elim (fun w => k1 (w ▸ z)) fun w => k2 (w ▸ z)
      · exact (I.tabN e2).2.2 (w ▸ z)
/-- the objects that are changed, for a callee -/
theorem SI.muOk {K : PySem.W.Frag} {c : C} {σ : L2.St} {ρ : Env} {H : Hp} {n : Nt} (I : SI G K c σ H ρ n) (pen : Option (Addr × Addr)) (hp : ∀ p, pen = some p → c.pen = some p) : MuOk G K c.S H pen n :=
  ⟨fun a nd e => ⟨(I.mu a nd e).1, (I.mu a nd e).2.1, fun p ep => ⟨fun z => (I.mu a nd e).2.2.2 (.inl ⟨p, hp p ep, .inl z⟩), fun z => (I.mu a nd e).2.2.2 (.inl ⟨p, hp p ep, .inr z⟩)⟩, fun q hq z => (I.mu a nd e).2.2.2 (.inr ⟨q, hq, z⟩)⟩, I.mz⟩
theorem call_core {c : C} {σ : L2.St} {ρ : Env} {H : Hp} {n : Nt} {P : D → Nt → Prop} {PX : Exc → Nt → Prop} {Q : VK} {m : List SV → W D} {args : List SV} {vs : List V} {ps : Nat} (I : SI G X.K c σ H ρ n) (hl : args.length = ps) (r : ArgsOk X.K c.S H c.pen args vs)
    (q : callM m args n P PX) (hg : Gl1 G X c σ ρ H P Q) (hx : OKx G X Wx c σ ρ H PX) : spM G X.K X.mg ps m vs H Q (WE Wx σ) := by
  unfold callM at q
  by_cases hp : args.any (fun s => match s with | .pen => true | _ => false) = true
  · rw [if_pos hp] at q
    refine ⟨c.S, c.pen, args, n, P, PX, hl, I.dom, fun p e => ?_, fun q e => ⟨(I.tabN e).1, (I.tab q e).2⟩, I.muOk c.pen fun _ h => h, r, q, fun d k v S' H' p h r => hg d k v S' H' p h.grow (I.called h (.inl rfl)) r, fun x k S' H' cls dd p h r => hx x k S' H' cls dd p h.grow (I.called h (.inl rfl)) r⟩
    obtain ⟨h1, h2, h3, _⟩ := I.pen p e
    exact ⟨h1, h2, h3⟩
  · rw [if_neg hp] at q
    have fix : ∀ {S' H' k}, After G X.K c.S S' none ⟨0, n.μ⟩ H H' k → After G X.K c.S S' none n H H' ⟨n.n, k.μ⟩ := fun h => ⟨h.grow, h.dom, h.new, h.fr, h.tab, (fun p e => nomatch e), h.mu, h.mu0, h.mz⟩
    exact ⟨c.S, none, args, ⟨0, n.μ⟩, _, _, hl, I.dom, fun p e => (nomatch e), fun q e => ⟨(I.tabN e).1, (I.tab q e).2⟩, I.muOk none (fun _ e => nomatch e), r.nopen (by simpa using hp), q, fun d k v S' H' p h r => hg d ⟨n.n, k.μ⟩ v S' H' p h.grow (I.called (fix h) (.inr ⟨rfl, rfl⟩)) r, fun x k S' H' cls dd p h r => hx x ⟨n.n, k.μ⟩ S' H' cls dd p h.grow (I.called (fix h) (.inr ⟨rfl, rfl⟩)) r⟩
def onB {α : Type} (b : Bool) (m : W α) : W α := match b with
  | true => m
  | false => stuck
def arity (n : Nat) (args : List SV) {α : Type} (m : W α) : W α := onB (Nat.beq args.length n) m
theorem arity_inv {n : Nat} {args : List SV} {α : Type} {m : W α} {k : Nt} {P : α → Nt → Prop} {PX : Exc → Nt → Prop} (h : arity n args m k P PX) : args.length = n ∧ m k P PX := by
  unfold arity at h
  cases e : Nat.beq args.length n with
  | true => rw [e] at h; exact ⟨Nat.eq_of_beq_eq_true e, h⟩
  | false => rw [e] at h; exact h.elim
/-- the callee runs -/
theorem run_G {k : Nat} {f : Addr} {fd : FuncData} {ps : List Str} {sp : Sp} {pins : List (Addr × Obj)} {σ : L2.St} {H : Hp} {s : Shared} {Q : VK} {a : Args} {us : List Value} {vs : List V} (F : FnG X.prog X.w X.K X.mg X.base k f fd ps sp) (hg : X.A.guards = some []) (hr : Room k X.A)
    (tk : Takes X Wx) (I : Inv X pins σ H s) (hb : BindsTo s fd a (ps.zip us)) (r : Vals vs us) (h : sp vs H Q (WE Wx σ)) : codeAny (model X.prog X.w) X.A (.call (.ref f) a) (fun r s' => match r with | .ok (.ret u) => EP X pins σ Q u s' | .ok _ => False | .error e => X.xe e s') s :=
  codeAny_mono (F.run X.A X.stack s H a us vs Q (WE Wx σ) hg hr I.env0 hb r h) fun r s' hq => by
    cases r with
    | error e => exact passAt tk σ pins H s e s' I hq
    | ok fl =>
      cases fl with
      | ret u => exact I.after hq
      | next => exact hq.elim
      | brk => exact hq.elim
      | cont => exact hq.elim
theorem run_call {k : Nat} {f : Addr} {fd : FuncData} {ps : List Str} {sp : Sp} {pins : List (Addr × Obj)} {σ : L2.St} {H : Hp} {s : Shared} {Q : VK} {us ws : List Value} {kw : List (Str × Value)} {vs : List V} (F : FnG X.prog X.w X.K X.mg X.base k f fd ps sp) (hg : X.A.guards = some []) (hr : Room k X.A)
    (tk : Takes X Wx) (I : Inv X pins σ H s) (hb : BindsTo s fd ⟨us, kw⟩ (ps.zip ws)) (r : Vals vs ws) (h : sp vs H Q (WE Wx σ)) : wpAny (model X.prog X.w) X.A (call (.ref f) us kw) (EP X pins σ Q) X.xe s :=
  wpAny_call (codeAny_mono (run_G F hg hr tk I hb r h) fun r s' hq => by
    cases r with
    | error e => exact hq
    | ok fl => cases fl <;> exact hq)
/-- what a def is known by: its address, promise, how arguments come to its parameters -/
structure Kn (G : PenK) (X : Cx) (k : Nat) (x : Str) (f : Addr) (fd : FuncData) (ps : List Str) (m : List SV → W D) : Prop where
  F : FnG X.prog X.w X.K X.mg X.base k f fd ps (spM G X.K X.mg ps.length m)
  mg : X.mg x = some (.ref f)
  kp : PySem.W.keepIn X.K (.ref f) = true
/-- f(a, b) -/
theorem e_call {k : Nat} {x : Str} {f : Addr} {fd : FuncData} {ps : List Str} {m : List SV → W D} {p pos : Pos} {e : Expr} {es : List Expr} {gs : Env → W (List SV)} (n : Kn G X k x f fd ps m) (hgd : X.A.guards = some []) (hr : Room k X.A) (tk : Takes X Wx) (hb : Binds X.K fd ps []) (ha : AV G X Wx (e :: es) gs)
    (hg : Gl X x := by rfl) (hdb : (x == ("__debug__" : Str)) = false := by decide) (he : starEach (e :: es) X.env = (false, eval e X.env) :: starEach es X.env := by rfl) (hpl : (backTo pos (starEach es X.env)).any (·.1) = false := by rfl) :
    E G X Wx (.Call (.Name x p) (e :: es) [] pos) (fun ρ => bnd (gs ρ) fun args => arity ps.length args (callM m args)) :=
  ⟨fun pins s σ H Q I ⟨c, ρ, k0, P, PX, I', q, hgl, hx⟩ => by
    refine wpAny_Call_Name_kw (ld_glob I hg n.mg ?_ hdb)
    refine PySem.W.callWith_K (h₀ := X.base) I.ok.mod.kin n.kp (thn (ha.run pos pins s σ H (fun vs H' => vs.length = ps.length ∧ spM G X.K X.mg ps.length m vs H' Q (WE Wx σ)) I ⟨c, ρ, k0, fun args k => arity ps.length args (callM m args) k P PX, PX, I', q, fun args k vs S' H' p g I2 r =>
      ⟨r.len.trans (arity_inv p).1, call_core I2 (arity_inv p).1 r (arity_inv p).2 (hgl.grow g) (hx.grow g)⟩, hx⟩) fun us s1 ⟨vs, H1, I1, r1, q1, q2⟩ => ⟨I1.kIn, ?_⟩) he hpl
    have hb1 := hb s1 us I1.kIn (by rw [List.append_nil, ← r1.length]; exact q1)
    rw [List.append_nil] at hb1
    exact run_call n.F hgd hr tk I1 hb1 r1 q2⟩
end
end PL

/-! The layer: built-ins over data. -/
namespace PL
open PySem PySem.Spec L2

/-! ### kinds -/
inductive Ty where
  | int | bool | str | tup | lst | dic
  deriving DecidableEq
def Ty.nm : Ty → String
  | .int => "int" | .bool => "bool" | .str => "str" | .tup => "tuple" | .lst => "list" | .dic => "dict"
def D.ty : D → String
  | .non => "NoneType" | .bl _ => "bool" | .int _ => "int" | .str _ => "str" | .lst _ => "list" | .tup _ => "tuple" | .dic _ => "dict" | .ins _ _ _ => "object"
def isT : Ty → D → Bool
  | .int, .int _ => true
  | .int, .bl _ => true
  | .bool, .bl _ => true
  | .str, .str _ => true
  | .tup, .tup _ => true
  | .lst, .lst _ => true
  | .dic, .dic _ => true
  | _, _ => false
def isA : List Ty → D → Bool
  | [], _ => false
  | t :: ts, d => isT t d || isA ts d
/-- what isinstance finds for each built-in class -/
def KitD (K : PySem.W.Frag) (cls : Value) (d : D) : Prop := ∀ t : Ty, PySem.W.kitOne K cls (.type t.nm) = some (isT t d)
theorem kit_D {K : PySem.W.Frag} (d : D) (hd : d.ty ≠ "object") : KitD K (.type d.ty) d := by
  intro t
  cases d <;> first | exact absurd rfl hd | (cases t <;> refine kit_ty ?_ <;> simp only [D.ty, Ty.nm, isT] <;> decide +kernel)
theorem kit_I {K : PySem.W.Frag} {c f : Str} {C : Addr} {x : D} (i : InsC K c f C) : KitD K (.ref C) (.ins c f x) := by
  intro t
  cases t <;> exact i.kit _ (by decide)
theorem kit_A {K : PySem.W.Frag} {cls : Value} {d : D} (h : KitD K cls d) : ∀ ts : List Ty, PySem.W.kitAny K cls (ts.map fun t => .type t.nm) = some (isA ts d)
  | [] => kitAny_nil
  | t :: ts => kitAny_cons (h t) (fun h1 => by show _ = some (isT t d || isA ts d); rw [h1, Bool.false_or]; exact kit_A h ts) fun h => by show (isT t d || isA ts d) = true; rw [h, Bool.true_or]

section
variable {G : PenK} {X : Cx} {Wx : WX}
theorem Rep.tyX {K : PySem.W.Frag} {S : Addr → Prop} {H : Hp} {d : D} {v : V} (r : Rep K S H d v) : ∃ cls, TyX K H v cls ∧ KitD K cls d := by
  cases d with
  | non => cases r; exact ⟨_, .base .non, kit_D .non (by simp [D.ty])⟩
  | bl b => cases r; exact ⟨_, .base (.bl b), kit_D (.bl b) (by simp [D.ty])⟩
  | int i => cases r; exact ⟨_, .base (.int i), kit_D (.int i) (by simp [D.ty])⟩
  | str x => obtain ⟨rfl, _⟩ := r; exact ⟨_, .base (.str x), kit_D (.str x) (by simp [D.ty])⟩
  | lst xs => obtain ⟨a, vs, rfl, r1, _⟩ := r; exact ⟨_, .base (.lst r1.2), kit_D (.lst xs) (by simp [D.ty])⟩
  | tup xs =>
    obtain ⟨a, vs, rfl, r1, _⟩ := r
    rcases r1 with ⟨_, o, h, _⟩ | ⟨o, its, n, h1, h2, _⟩
    · exact ⟨_, .fTuple h, kit_D (.tup xs) (by simp [D.ty])⟩
    · exact ⟨_, .kTuple h1 h2, kit_D (.tup xs) (by simp [D.ty])⟩
  | dic kvs =>
    obtain ⟨a, vs, rfl, r1, _⟩ := r
    rcases r1.2 with h | ⟨o, h⟩
    · exact ⟨_, .base (.dK h), kit_D (.dic kvs) (by simp [D.ty])⟩
    · exact ⟨_, .fDict h, kit_D (.dic kvs) (by simp [D.ty])⟩
  | ins cn f x =>
    obtain ⟨a, C, dx, w, rfl, i, ⟨_, ha⟩, _⟩ := r
    exact ⟨_, .base (.ins ha i.cls i.ca i.cn i.ct i.cm), kit_I i⟩
theorem two_a {e e2 : Expr} {te : TE} {t2 : TE} (h : PE X e te) (h2 : PE X e2 t2) (hp : starEach [e, e2] X.env = (false, eval e X.env) :: starEach [e2] X.env := by rfl) (hp2 : starEach [e2] X.env = (false, eval e2 X.env) :: starEach [] X.env := by rfl) :
    PA X [e, e2] (tCons te (tCons t2 tNil)) := pa_cons h (pa_cons h2 pa_nil hp2) hp
/-- isinstance(e, T) -/
theorem e_isi {x : Str} {p px pos : Pos} {e : Expr} {g : Env → W D} (t : Ty) (hm : X.mg "isinstance" = none) (hmx : X.mg x = none) (hbx : bootBuiltins x = some (.type t.nm)) (h : E G X Wx e g)
    (hg : Gl X "isinstance" := by rfl) (hgx : Gl X x := by rfl) (hn : x ≠ "__name__" := by decide) (hdb : (x == ("__debug__" : Str)) = false := by decide) (he : starEach [e, .Name x px] X.env = (false, eval e X.env) :: starEach [.Name x px] X.env := by rfl)
    (he2 : starEach [.Name x px] X.env = (false, eval (.Name x px) X.env) :: starEach [] X.env := by rfl) (hpl : (backTo pos (starEach [.Name x px] X.env)).any (·.1) = false := by rfl) :
    E G X Wx (.Call (.Name "isinstance" p) [e, .Name x px] [] pos) (fun ρ => bnd (g ρ) fun d => ret (.bl (isT t d))) :=
  weakE (pe_callB call_isi hg hm PyProof.Rows.boot_isinstance (two_a h (pe_bltn (v := .ty t.nm) hgx hmx hbx rfl hn hdb) he he2) (by decide) (by decide) he hpl) fun σ H Q ⟨c, ρ, n, P, PX, I, q, hg, hx⟩ => tE.bnd I q hx fun d k u S' H' p g I' hx' r =>
    let ⟨_, h1, h2⟩ := r.tyX
    ⟨u, .ty t.nm, _, _, isT t d, rfl, .ty _, h1, h2 t, hg (.bl (isT t d)) k _ S' H' p g I' rfl⟩
/-- a display of built-in classes -/
def Cl (X : Cx) (es : List Expr) (ts : List Ty) : Prop := PA X es (fun _ H Q => Q (ts.map fun t => .ty t.nm) H)
theorem cl_nil : Cl X [] [] := pa_nil
theorem cl_cons {x : Str} {px : Pos} {es : List Expr} {ts : List Ty} (t : Ty) (hmx : X.mg x = none) (hbx : bootBuiltins x = some (.type t.nm)) (h : Cl X es ts) (hgx : Gl X x := by rfl) (hn : x ≠ "__name__" := by decide) (hdb : (x == ("__debug__" : Str)) = false := by decide)
    (hp : starEach (.Name x px :: es) X.env = (false, eval (.Name x px) X.env) :: starEach es X.env := by rfl) : Cl X (.Name x px :: es) (t :: ts) :=
  weakA (pa_cons (pe_bltn (v := .ty t.nm) hgx hmx hbx rfl hn hdb) h hp) fun σ H Q q => q
theorem cls_all : ∀ ts : List Ty, Paired ClsV (ts.map fun t => V.ty t.nm) (ts.map fun t => Value.type t.nm)
  | [] => .nil
  | t :: ts => .cons (.ty _) (cls_all ts)
/-- isinstance(e, (T, U)) -/
theorem e_isis {p pt pos : Pos} {k0 : Nat} {e : Expr} {es : List Expr} {ts : List Ty} {g : Env → W D} (hm : X.mg "isinstance" = none) (hts : Cl X es ts) (h : E G X Wx e g) (hz : ts.length ≤ sizeLine := by decide)
    (hg : Gl X "isinstance" := by rfl) (he : starEach [e, .Tuple es k0 pt] X.env = (false, eval e X.env) :: starEach [.Tuple es k0 pt] X.env := by rfl)
    (he2 : starEach [.Tuple es k0 pt] X.env = (false, eval (.Tuple es k0 pt) X.env) :: starEach [] X.env := by rfl) (hpl : (backTo pos (starEach [.Tuple es k0 pt] X.env)).any (·.1) = false := by rfl) :
    E G X Wx (.Call (.Name "isinstance" p) [e, .Tuple es k0 pt] [] pos) (fun ρ => bnd (g ρ) fun d => ret (.bl (isA ts d))) :=
  weakE (pe_callB call_isiT hg hm PyProof.Rows.boot_isinstance (two_a h (pe_tup hts) he he2) (by decide) (by decide) he hpl) fun σ H Q ⟨c, ρ, n, P, PX, I, q, hg, hx⟩ => tE.bnd I q hx fun d k u S' H' p g I' hx' r => by
    refine ⟨by rw [List.length_map]; exact hz, fun a ha => ?_⟩
    obtain ⟨I2, g2⟩ := I'.laid (o := .tup (ts.map fun t => .ty t.nm)) ha
    obtain ⟨_, h1, h2⟩ := (Rep.grow g2 _ _ r).tyX
    refine ⟨u, a, ts.map fun t => .ty t.nm, _, ts.map fun t => .type t.nm, isA ts d, rfl, upd_same, ?_, h1, kit_A h2 ts, hg (.bl (isA ts d)) k _ _ _ p (g.trans g2) I2 rfl⟩
    exact cls_all ts

/-! ### one argument -/
theorem e_b1 {x : Str} {p pos : Pos} {id : String} {e : Expr} {r : V → Hp → VK → Prop} {r' : List V → Hp → VK → Prop} {g : Env → W D} {f : D → W D} (hm : X.mg x = none) (hv : bootBuiltins x = some (.builtin id)) (o : CallR X (.builtin id) r') (v : V1 G X Wx f r) (hr : ∀ x H Q, r x H Q → r' [x] H Q) (h : E G X Wx e g)
    (hg : Gl X x) (hn : x ≠ "__name__") (hdb : (x == ("__debug__" : Str)) = false) (he : starEach [e] X.env = (false, eval e X.env) :: starEach [] X.env) (hpl : (backTo pos (starEach [] X.env)).any (·.1) = false) : E G X Wx (.Call (.Name x p) [e] [] pos) (fun ρ => bnd (g ρ) f) :=
  e_callB hm hv o (va_one v hr) (a_cons h a_nil he) hg hn hdb he hpl
theorem e_t1 {x : Str} {p pos : Pos} {T : String} {e : Expr} {r : V → Hp → VK → Prop} {r' : List V → Hp → VK → Prop} {g : Env → W D} {f : D → W D} (hm : X.mg x = none) (hv : bootBuiltins x = some (.type T)) (o : CallR X (.type T) r') (v : V1 G X Wx f r) (hr : ∀ x H Q, r x H Q → r' [x] H Q) (h : E G X Wx e g)
    (hg : Gl X x) (hn : x ≠ "__name__") (hdb : (x == ("__debug__" : Str)) = false) (he : starEach [e] X.env = (false, eval e X.env) :: starEach [] X.env) (hpl : (backTo pos (starEach [] X.env)).any (·.1) = false) : E G X Wx (.Call (.Name x p) [e] [] pos) (fun ρ => bnd (g ρ) f) :=
  e_callT hm hv o (va_one v hr) (a_cons h a_nil he) hg hn hdb he hpl
def V1O (G : PenK) (X : Cx) (Wx : WX) (h : D → W (List D)) (r : V → Hp → VK → Prop) : Prop :=
  ∀ c σ ρ H n P PX d v Q, SI G X.K c σ H ρ n → Rep X.K c.S H d v → h d n P PX → GlO G X c σ ρ H P Q → OKx G X Wx c σ ρ H PX → r v H Q
theorem o_t1 {x : Str} {p pos : Pos} {T : String} {e : Expr} {r : V → Hp → VK → Prop} {r' : List V → Hp → VK → Prop} {g : Env → W D} {f : D → W (List D)} (hm : X.mg x = none) (hv : bootBuiltins x = some (.type T)) (o : CallR X (.type T) r') (v : V1O G X Wx f r) (hr : ∀ x H Q, r x H Q → r' [x] H Q) (h : E G X Wx e g)
    (hg : Gl X x) (hn : x ≠ "__name__") (hdb : (x == ("__debug__" : Str)) = false) (he : starEach [e] X.env = (false, eval e X.env) :: starEach [] X.env) (hpl : (backTo pos (starEach [] X.env)).any (·.1) = false) : EO G X Wx (.Call (.Name x p) [e] [] pos) (fun ρ => bnd (g ρ) f) :=
  weakE (pe_callTy o hg hm hv (a_cons h a_nil he) hn hdb he hpl) fun σ H Q ⟨c, ρ, n, P, PX, I, q, hg, hx⟩ => tAr.bnd (f := fun ds => match ds with | [d] => f d | _ => stuck) I q hx fun ds k vs S' H' p g I' hx' rs => by
    cases ds with
    | nil => exact p.elim
    | cons d ds =>
      cases ds with
      | cons _ _ => exact p.elim
      | nil =>
        obtain ⟨u, rfl, r1⟩ := rs.one_inv
        exact hr u H' Q (v _ σ ρ H' k P PX d u Q I' r1 p (hg.grow g) hx')
theorem e_len' {p pos : Pos} {e : Expr} {g : Env → W D} (hm : X.mg "len" = none) (h : E G X Wx e g) (hg : Gl X "len" := by rfl) (he : starEach [e] X.env = (false, eval e X.env) :: starEach [] X.env := by rfl) :
    E G X Wx (.Call (.Name "len" p) [e] [] pos) (fun ρ => bnd (g ρ) lenD) := e_len hm h hg he
/-- list(e) -/
theorem o_list {p pos : Pos} {e : Expr} {g : Env → W D} (hm : X.mg "list" = none) (h : E G X Wx e g) (hg : Gl X "list" := by rfl) (he : starEach [e] X.env = (false, eval e X.env) :: starEach [] X.env := by rfl) :
    EO G X Wx (.Call (.Name "list" p) [e] [] pos) (fun ρ => bnd (g ρ) items) :=
  o_t1 hm PyProof.Rows.boot_list call_list_of (r := fun x H Q => ∃ p ys, x = .ref p ∧ (SqL X.K H p ys ∨ SqT X.K H p ys) ∧ ∀ l, H l = none → Q (.ref l) (upd H l (.lst ys))) (by
    intro c σ ρ H n P PX d v Q I r q hg hx
    cases d with
    | lst xs => obtain ⟨a, vs, rfl, r1, z, q1⟩ := r; exact ⟨a, vs, rfl, .inl r1.sq, fun l hl => hg.new q I hl z q1⟩
    | tup xs => obtain ⟨a, vs, rfl, r1, z, q1⟩ := r; exact ⟨a, vs, rfl, .inr r1.sq, fun l hl => hg.new q I hl z q1⟩
    | _ => exact q.elim) (fun x H Q ⟨p, ys, e, h⟩ => ⟨p, ys, by rw [e], h⟩) h hg (by decide) (by decide) he (by rfl)
def tupD : D → W D
  | .lst xs => ret (.tup xs)
  | .tup xs => ret (.tup xs)
  | _ => stuck
/-- tuple(e) -/
theorem e_tuple {p pos : Pos} {e : Expr} {g : Env → W D} (hm : X.mg "tuple" = none) (h : E G X Wx e g) (hg : Gl X "tuple" := by rfl) (he : starEach [e] X.env = (false, eval e X.env) :: starEach [] X.env := by rfl) :
    E G X Wx (.Call (.Name "tuple" p) [e] [] pos) (fun ρ => bnd (g ρ) tupD) :=
  e_t1 hm PyProof.Rows.boot_tuple call_tupleZ (r := fun x H Q => ∃ p ys, x = .ref p ∧ ((SqL X.K H p ys ∧ NewT H ys Q) ∨ (SqT X.K H p ys ∧ Q (.ref p) H))) (by
    intro c σ ρ H n P PX d v Q I r q hg hx
    cases d with
    | lst xs => obtain ⟨a, vs, rfl, r1, z, q1⟩ := r; exact ⟨a, vs, rfl, .inl ⟨r1.sq, fun l o hl hd => hg.new q I hl fun g2 => ⟨l, vs, rfl, .inl ⟨.inr rfl, o, upd_same, hd⟩, z, Reps.grow g2 _ _ q1⟩⟩⟩
    | tup xs => obtain ⟨a, vs, rfl, r1, z, q1⟩ := id r; exact ⟨a, vs, rfl, .inr ⟨r1.sq, hg.at q I r⟩⟩
    | _ => exact q.elim) (fun x H Q ⟨p, ys, e, h⟩ => ⟨p, ys, by rw [e], h⟩) h hg (by decide) (by decide) he (by rfl)
def intD : D → W D
  | .int i => ret (.int i)
  | .bl b => ret (.int (if b then 1 else 0))
  | _ => stuck
theorem e_toint {p pos : Pos} {e : Expr} {g : Env → W D} (hm : X.mg "int" = none) (h : E G X Wx e g) (hg : Gl X "int" := by rfl) (he : starEach [e] X.env = (false, eval e X.env) :: starEach [] X.env := by rfl) :
    E G X Wx (.Call (.Name "int" p) [e] [] pos) (fun ρ => bnd (g ρ) intD) :=
  e_t1 hm PyProof.Rows.boot_int call_int1 (r := fun x H Q => (∃ i, x = .int i ∧ Q (.int i) H) ∨ ∃ k, x = .bl k ∧ Q (.int (if k then 1 else 0)) H) (by
    intro c σ ρ H n P PX d v Q I r q hg hx
    cases d with
    | int i => cases r; exact .inl ⟨i, rfl, hg.at (d := .int i) q I rfl⟩
    | bl b => cases r; exact .inr ⟨b, rfl, hg.at (d := .int (if b then 1 else 0)) q I rfl⟩
    | _ => exact q.elim) (fun x H Q h => h.elim (fun ⟨i, e, h⟩ => .inl ⟨i, by rw [e], h⟩) fun ⟨i, e, h⟩ => .inr ⟨i, by rw [e], h⟩) h hg (by decide) (by decide) he (by rfl)
def bls : List D → Option (List Bool)
  | [] => some []
  | .bl b :: xs => (bls xs).map (b :: ·)
  | _ :: _ => none
theorem bls_vals {K : PySem.W.Frag} {S : Addr → Prop} {H : Hp} : ∀ {xs : List D} {bs : List Bool} {vs : List V}, bls xs = some bs → Reps K S H xs vs → vs = bs.map V.bl
  | [], bs, vs, h, r => by
    cases h
    exact r
  | x :: xs, bs, vs, h, r => by
    obtain ⟨v, ws, rfl, r1, r2⟩ := r
    cases x with
    | bl b =>
      obtain ⟨cs, e1, e2⟩ := Option.map_eq_some_iff.mp h
      cases e2
      cases r1
      rw [bls_vals e1 r2]
      rfl
    | _ => cases h
def allD : D → W D
  | .lst xs => match bls xs with
    | some bs => ret (.bl (bs.all id))
    | none => stuck
  | _ => stuck
theorem e_all {p pos : Pos} {e : Expr} {g : Env → W D} (hc : X.calm = true) (hm : X.mg "all" = none) (h : E G X Wx e g) (hg : Gl X "all" := by rfl) (he : starEach [e] X.env = (false, eval e X.env) :: starEach [] X.env := by rfl) :
    E G X Wx (.Call (.Name "all" p) [e] [] pos) (fun ρ => bnd (g ρ) allD) :=
  e_b1 hm PyProof.Rows.boot_all (cr_all hc) (r := fun x H Q => ∃ a bs, x = V.ref a ∧ SqL X.K H a (bs.map V.bl) ∧ Q (.bl (bs.all id)) H) (by
    intro c σ ρ H n P PX d v Q I r q hg hx
    cases d with
    | lst xs =>
      obtain ⟨a, vs, rfl, r1, z, q1⟩ := r
      have q : (match bls xs with | some bs => ret (.bl (bs.all id)) | none => stuck : W D) n P PX := q
      cases e : bls xs with
      | none => rw [e] at q; exact q.elim
      | some bs =>
        rw [e] at q
        have e2 := bls_vals e q1
        rw [e2] at r1
        exact ⟨a, bs, rfl, r1.sq, hg.at (d := .bl (bs.all id)) q I rfl⟩
    | _ => exact q.elim) (fun x H Q ⟨a, bs, e, h⟩ => ⟨a, bs, by rw [e], h⟩) h hg (by decide) (by decide) he (by rfl)
/-! ### in -/
def inFlat (neg : Bool) (x y : D) : W D := match y with
  | .lst ys => grd (x.sc = true ∧ ys.all D.sc = true) (ret (.bl (if neg then !(ys.any fun z => scEq z x) else ys.any fun z => scEq z x)))
  | .tup ys => grd (x.sc = true ∧ ys.all D.sc = true) (ret (.bl (if neg then !(ys.any fun z => scEq z x) else ys.any fun z => scEq z x)))
  | _ => stuck
theorem Rep.flat {K : PySem.W.Frag} {S : Addr → Prop} {H : Hp} {d : D} {v : V} (r : Rep K S H d v) (h : d.sc = true) : flatV v = true := by
  cases d with
  | non => cases r; rfl
  | bl _ => cases r; rfl
  | int _ => cases r; rfl
  | str _ => obtain ⟨rfl, _⟩ := r; rfl
  | _ => cases h
theorem Rep.eqs {K : PySem.W.Frag} {S : Addr → Prop} {H : Hp} {d e : D} {v w : V} (r : Rep K S H d v) (q : Rep K S H e w) (h : d.sc = true) (h2 : e.sc = true) : eqV v w = scEq d e := by
  cases d with
  | non => cases r; cases e with
    | non => cases q; rfl
    | bl _ => cases q; rfl
    | int _ => cases q; rfl
    | str _ => obtain ⟨rfl, _⟩ := q; rfl
    | _ => cases h2
  | bl _ => cases r; cases e with
    | non => cases q; rfl
    | bl _ => cases q; rfl
    | int _ => cases q; rfl
    | str _ => obtain ⟨rfl, _⟩ := q; rfl
    | _ => cases h2
  | int _ => cases r; cases e with
    | non => cases q; rfl
    | bl _ => cases q; rfl
    | int _ => cases q; rfl
    | str _ => obtain ⟨rfl, _⟩ := q; rfl
    | _ => cases h2
  | str _ => obtain ⟨rfl, _⟩ := r; cases e with
    | non => cases q; rfl
    | bl _ => cases q; rfl
    | int _ => cases q; rfl
    | str _ => obtain ⟨rfl, _⟩ := q; rfl
    | _ => cases h2
  | _ => cases h
theorem Reps.flat {K : PySem.W.Frag} {S : Addr → Prop} {H : Hp} {x : D} {v : V} (rx : Rep K S H x v) (hx : x.sc = true) : ∀ {ys : List D} {vs : List V}, Reps K S H ys vs → ys.all D.sc = true → vs.all flatV = true ∧ inV v vs = ys.any fun z => scEq z x
  | [], _, h, _ => by
    have e : _ = [] := h
    rw [e]
    exact ⟨rfl, rfl⟩
  | y :: ys, _, h, hs => by
    obtain ⟨w, ws, rfl, r1, r2⟩ := h
    rw [List.all_cons, Bool.and_eq_true] at hs
    obtain ⟨h1, h2⟩ := Reps.flat rx hx r2 hs.2
    refine ⟨by rw [List.all_cons, r1.flat hs.1, h1]; rfl, ?_⟩
    unfold inV at *
    rw [List.any_cons, List.any_cons, r1.eqs rx hs.1 hx, h2]
theorem v2_in (neg : Bool) : V2 G X Wx (inFlat neg) (rIn X.K neg) := by
  intro c σ ρ H n P PX d e v w Q I rd re q hg hx
  cases e with
  | lst ys =>
    obtain ⟨a, vs, rfl, r1, z, q1⟩ := re
    obtain ⟨⟨h1, h2⟩, q⟩ := q
    obtain ⟨h3, h4⟩ := Reps.flat rd h1 q1 h2
    exact ⟨a, vs, rfl, .inl r1.sq, rd.flat h1, h3, by rw [h4]; exact hg.at (d := .bl _) q I rfl⟩
  | tup ys =>
    obtain ⟨a, vs, rfl, r1, z, q1⟩ := re
    obtain ⟨⟨h1, h2⟩, q⟩ := q
    obtain ⟨h3, h4⟩ := Reps.flat rd h1 q1 h2
    exact ⟨a, vs, rfl, .inr r1.sq, rd.flat h1, h3, by rw [h4]; exact hg.at (d := .bl _) q I rfl⟩
  | _ => exact q.elim
theorem cm_in : Cm G X Wx .In (inFlat false) := ⟨_, op_in_seq, v2_in false⟩
theorem cm_notin : Cm G X Wx .NotIn (inFlat true) := ⟨_, op_notIn_seq, v2_in true⟩
/-- one sign in a text -/
def inStr (neg : Bool) (x y : D) : W D := match x, y with
  | .str a, .str b => match a.cps.toList with
    | [k] => ret (.bl (if neg then !decide (k ∈ b.cps.toList) else decide (k ∈ b.cps.toList)))
    | _ => stuck
  | _, _ => stuck
theorem one_sign {a : Str} {k : Nat} (h : a.cps.toList = [k]) : a = ⟨#[k]⟩ := by
  cases a with
  | mk c =>
    have : c = #[k] := by
      apply Array.toList_inj.mp
      exact h
    rw [this]
theorem inStr_inv {neg : Bool} {x y : D} {n : Nt} {P : D → Nt → Prop} {PX : Exc → Nt → Prop} (h : inStr neg x y n P PX) : ∃ k b, x = .str ⟨#[k]⟩ ∧ y = .str b ∧ P (.bl (if neg then !decide (k ∈ b.cps.toList) else decide (k ∈ b.cps.toList))) n := by
  cases x with
  | str a =>
    cases y with
    | str b =>
      have h : (match a.cps.toList with | [k] => ret (.bl (if neg then !decide (k ∈ b.cps.toList) else decide (k ∈ b.cps.toList))) | _ => stuck : W D) n P PX := h
      generalize e : a.cps.toList = l at h
      match l, h with
      | [k], h => exact ⟨k, b, by rw [one_sign e], rfl, h⟩
      | [], h => exact h.elim
      | _ :: _ :: _, h => exact h.elim
    | _ => exact h.elim
  | _ => exact h.elim
theorem cm_inS : Cm G X Wx .In (inStr false) := ⟨_, op_in_sign, by
  intro c σ ρ H n P PX d e v w Q I rd re q hg hx
  obtain ⟨k, b, rfl, rfl, q⟩ := inStr_inv q
  obtain ⟨rfl, _⟩ := rd
  obtain ⟨rfl, _⟩ := re
  exact ⟨k, b, rfl, rfl, hg.at (d := .bl _) q I rfl⟩⟩
/-! ### join -/
def txts : List D → Option (List Str)
  | [] => some []
  | .str b :: xs => (txts xs).map (b :: ·)
  | _ :: _ => none
theorem txts_vals {K : PySem.W.Frag} {S : Addr → Prop} {H : Hp} : ∀ {xs : List D} {bs : List Str} {vs : List V}, txts xs = some bs → Reps K S H xs vs → vs = bs.map V.str
  | [], bs, vs, h, r => by
    cases h
    exact r
  | x :: xs, bs, vs, h, r => by
    obtain ⟨v, ws, rfl, r1, r2⟩ := r
    cases x with
    | str b =>
      obtain ⟨cs, e1, e2⟩ := Option.map_eq_some_iff.mp h
      cases e2
      obtain ⟨rfl, _⟩ := r1
      rw [txts_vals e1 r2]
      rfl
    | _ => cases h
def joinW (a : Str) (xs : List D) : W D := match txts xs with
  | some ys => grd ((ys.map (·.length)).sum + ys.length * a.length ≤ 16777216 ∧ (Txt.join a ys).length ≤ sizeLine) (ret (.str (Txt.join a ys)))
  | none => stuck
def joinD (x y : D) : W D := match x, y with
  | .str a, .lst xs => joinW a xs
  | .str a, .tup xs => joinW a xs
  | _, _ => stuck
def onStr {α : Type} (x : D) (m : W α) : W α := match x with
  | .str _ => m
  | _ => stuck
theorem e_join {o e : Expr} {apos pos : Pos} {go ge : Env → W D} (ho : E G X Wx o go) (he : E G X Wx e ge) (hs : starEach [e] X.env = [(false, eval e X.env)] := by rfl) (hbase : attributeBase o "join" X.env (eval o X.env) = eval o X.env := by rfl) (hline : (apos.endLine == pos.line) = true := by rfl) :
    E G X Wx (.Call (.Attribute o "join" apos) [e] [] pos) (fun ρ => bnd (go ρ) fun x => onStr x (bnd (ge ρ) fun y => joinD x y)) :=
  weakE (pe_join ho he hs hbase hline) fun σ H Q ⟨c, ρ, n, P, PX, I, q, hg, hx⟩ => tE.bnd I q hx fun d k u S' H' p g I' hx' r => by
    cases d with
    | str a =>
      obtain ⟨rfl, hz⟩ := r
      refine ⟨⟨a, rfl⟩, tE.bnd I' p hx' fun d2 k2 u2 S2 H2 p2 g2 I2 hx2 r2 => ?_⟩
      have fin : ∀ xs vs b, joinW a xs k2 P PX → Reps X.K S2 H2 xs vs → (SqL X.K H2 b vs ∨ SqT X.K H2 b vs) → ∃ a_1 p, ∃ ys : List Str, V.str a = .str a_1 ∧ [V.ref b] = [.ref p] ∧ (SqL X.K H2 p (ys.map V.str) ∨ SqT X.K H2 p (ys.map V.str)) ∧
          (ys.map (·.length)).sum + ys.length * a_1.length ≤ 16777216 ∧ Q (.str (Txt.join a_1 ys)) H2 := fun xs vs b h1 h2 h3 => by
        unfold joinW at h1
        cases e : txts xs with
        | none => rw [e] at h1; exact h1.elim
        | some ys =>
          rw [e] at h1
          have e2 := txts_vals e h2
          rw [e2] at h3
          exact ⟨a, b, ys, rfl, rfl, h3, h1.1.1, (hg.grow (g.trans g2)).at (d := .str (Txt.join a ys)) h1.2 I2 ⟨rfl, h1.1.2⟩⟩
      cases d2 with
      | lst xs => obtain ⟨b, vs, rfl, r1, _, q1⟩ := r2; exact fin xs vs b p2 q1 (.inl r1.sq)
      | tup xs => obtain ⟨b, vs, rfl, r1, _, q1⟩ := r2; exact fin xs vs b p2 q1 (.inr r1.sq)
      | _ => exact p2.elim
    | _ => exact p.elim
end
end PL

/-! The layer: repr, dicts among the data too. -/
namespace PL
open PySem PySem.Spec L2

/-- data off the heap, no dict among it sys.modules -/
inductive RX (h : Heap) : Value → PyData → Prop where
  | none : RX h .none .none
  | bool (b : Bool) : RX h (.bool b) (.bool b)
  | int (i : Int) (t : Tok) : RX h (.int i t) (.int i)
  | str (x : Str) (t : Tok) : RX h (.str x t) (.str x)
  | list {a : Addr} {o : Obj} {vs : Array Value} {n : Nat} {xs : List PyData} : h.get? a = some o → o.cls = .type "list" → o.data = .seq vs n → Paired (RX h) vs.toList xs → RX h (.ref a) (.list xs)
  | tuple {a : Addr} {o : Obj} {vs : Array Value} {n : Nat} {xs : List PyData} : h.get? a = some o → o.cls = .type "tuple" → o.data = .seq vs n → Paired (RX h) vs.toList xs → RX h (.ref a) (.tuple xs)
  | dict {a : Addr} {o : Obj} {es : Array DictEntry} {n : Nat} {kvs : List (PyData × PyData)} : h.get? a = some o → o.cls = .type "dict" → o.data = .dict es n → (a == sysModules) = false →
      Paired (RX h) (es.toList.map (·.key)) (kvs.map (·.1)) → Paired (RX h) (es.toList.map (·.val)) (kvs.map (·.2)) → RX h (.ref a) (.dict kvs)

section
variable {h : Heap} {P : Program} {w : World}
mutual
theorem RX.reads : ∀ (d : PyData) {v : Value}, RX h v d → ∃ as, Reads h v d as
  | .none, _, .none => ⟨_, .none⟩
  | .bool _, _, .bool b => ⟨_, .bool b⟩
  | .int _, _, .int i t => ⟨_, .int i t⟩
  | .str _, _, .str x t => ⟨_, .str x t⟩
  | .list xs, _, .list h1 h2 h3 h4 => let ⟨_, q⟩ := RX.readsAll xs h4; ⟨_, .list h1 h2 h3 q⟩
  | .tuple xs, _, .tuple h1 h2 h3 h4 => let ⟨_, q⟩ := RX.readsAll xs h4; ⟨_, .tuple h1 h2 h3 q⟩
  | .dict kvs, _, .dict h1 h2 h3 _ h5 h6 => let ⟨⟨_, q⟩, ⟨_, q2⟩⟩ := RX.readsKv kvs h5 h6; ⟨_, .dict h1 h2 h3 q q2⟩
theorem RX.readsAll : ∀ (ds : List PyData) {vs : List Value}, Paired (RX h) vs ds → ∃ as, ReadsAll h vs ds as
  | [], _, .nil => ⟨_, .nil⟩
  | d :: ds, _, .cons r t => let ⟨_, q⟩ := RX.reads d r; let ⟨_, q2⟩ := RX.readsAll ds t; ⟨_, .cons q q2⟩
theorem RX.readsKv : ∀ (ds : List (PyData × PyData)) {vs us : List Value}, Paired (RX h) vs (ds.map (·.1)) → Paired (RX h) us (ds.map (·.2)) → (∃ as, ReadsAll h vs (ds.map (·.1)) as) ∧ ∃ as, ReadsAll h us (ds.map (·.2)) as
  | [], _, _, .nil, .nil => ⟨⟨_, .nil⟩, _, .nil⟩
  | (a, b) :: ds, _, _, .cons r t, .cons r' t' =>
    let ⟨_, q⟩ := RX.reads a r
    let ⟨_, q'⟩ := RX.reads b r'
    let ⟨⟨_, q2⟩, ⟨_, q3⟩⟩ := RX.readsKv ds t t'
    ⟨⟨_, .cons q q2⟩, _, .cons q' q3⟩
end
/-- the text's length stays within the line -/
def Fit (d : PyData) : Prop := d.showable = true ∧ d.shown.length ≤ sizeLine
theorem Fit.list {xs : List PyData} (f : Fit (.list xs)) : ∀ x ∈ xs, Fit x := by
  obtain ⟨h1, h2⟩ := f
  have e : (listText (PyData.shownAll xs)).length ≤ sizeLine := by simpa only [PyData.shown] using h2
  have a1 : PyData.showableAll xs = true := by simpa [PyData.showable] using h1
  clear h1 h2
  have key : ∀ t ∈ PyData.shownAll xs, t.length ≤ sizeLine := fun t ht => Nat.le_trans (listText_mem_le ht) e
  clear e
  induction xs with
  | nil => exact fun x hx => nomatch hx
  | cons y ys ih =>
    rw [PyData.showableAll, Bool.and_eq_true] at a1
    intro x hx
    rcases List.mem_cons.mp hx with rfl | hx
    · exact ⟨a1.1, key _ (by rw [PyData.shownAll]; exact List.mem_cons_self)⟩
    · exact ih a1.2 (fun t ht => key t (by rw [PyData.shownAll]; exact List.mem_cons_of_mem _ ht)) x hx
theorem Fit.tuple {xs : List PyData} (f : Fit (.tuple xs)) : ∀ x ∈ xs, Fit x := by
  obtain ⟨h1, h2⟩ := f
  have e : (tupleText (PyData.shownAll xs)).length ≤ sizeLine := by simpa only [PyData.shown] using h2
  have a1 : PyData.showableAll xs = true := by simpa [PyData.showable] using h1
  clear h1 h2
  have key : ∀ t ∈ PyData.shownAll xs, t.length ≤ sizeLine := fun t ht => Nat.le_trans (tupleText_mem_le ht) e
  clear e
  induction xs with
  | nil => exact fun x hx => nomatch hx
  | cons y ys ih =>
    rw [PyData.showableAll, Bool.and_eq_true] at a1
    intro x hx
    rcases List.mem_cons.mp hx with rfl | hx
    · exact ⟨a1.1, key _ (by rw [PyData.shownAll]; exact List.mem_cons_self)⟩
    · exact ih a1.2 (fun t ht => key t (by rw [PyData.shownAll]; exact List.mem_cons_of_mem _ ht)) x hx
theorem Fit.dict {kvs : List (PyData × PyData)} (f : Fit (.dict kvs)) : (∀ x ∈ kvs, Fit x.1 ∧ Fit x.2) := by
  obtain ⟨h1, h2⟩ := f
  have e : (dictText (PyData.shownKv kvs)).length ≤ sizeLine := by simpa only [PyData.shown] using h2
  have a1 : PyData.showableKv kvs = true := by simpa [PyData.showable] using h1
  clear h1 h2
  have key : ∀ t ∈ PyData.shownKv kvs, t.length ≤ sizeLine := fun t ht => Nat.le_trans (dictText_mem_le ht) e
  clear e
  induction kvs with
  | nil => exact fun x hx => nomatch hx
  | cons y ys ih =>
    obtain ⟨a, b⟩ := y
    rw [PyData.showableKv, Bool.and_eq_true, Bool.and_eq_true] at a1
    intro x hx
    rcases List.mem_cons.mp hx with rfl | hx
    · have := key _ (by rw [PyData.shownKv]; exact List.mem_cons_self)
      rw [PySem.Str.length_append, PySem.Str.length_append] at this
      exact ⟨⟨a1.1.1, by show a.shown.length ≤ sizeLine; omega⟩, ⟨a1.1.2, by show b.shown.length ≤ sizeLine; omega⟩⟩
    · exact ih a1.2 (fun t ht => key t (by rw [PyData.shownKv]; exact List.mem_cons_of_mem _ ht)) x hx

mutual
theorem RX.shows : ∀ (d : PyData) {v : Value}, RX h v d → Fit d → ∃ bs, ReadAtMost h d.depth bs ∧ ReprK P w bs h d.depth v d.shown
  | .none, _, .none, _ => ⟨[], fun _ q => (nomatch q), by rw [PyData.shown]; exact .of_is ReprIs.none _ _ _⟩
  | .bool _, _, .bool b, _ => ⟨[], fun _ q => (nomatch q), by rw [PyData.shown]; exact .of_is (ReprIs.bool b) _ _ _⟩
  | .int _, _, .int i t, f => ⟨[], fun _ q => (nomatch q), by rw [PyData.shown]; exact .of_is (ReprIs.int t (by simpa [PyData.showable] using f.1)) _ _ _⟩
  | .str _, _, .str x t, f => ⟨[], fun _ q => (nomatch q), by rw [PyData.shown]; exact .of_is (ReprIs.str x t (by simpa only [PyData.shown] using f.2)) _ _ _⟩
  | .list xs, _, .list (a := a) (vs := vs) h1 h2 h3 h4, f => by
    obtain ⟨bs, hb, hk⟩ := RX.showsAll xs h4 f.list
    obtain ⟨as, r⟩ := RX.reads (.list xs) (.list h1 h2 h3 h4)
    have hn : a ∉ bs := not_mem_of_deeper r (by rw [PyData.depth]; omega) hb
    refine ⟨a :: bs, .cons r (by rw [PyData.depth]; omega) hb, ?_⟩
    rw [PyData.depth, PyData.shown]
    obtain ⟨l⟩ := vs
    cases l with
    | nil =>
      have h4 : Paired (RX h) [] xs := h4
      cases h4
      rw [PyData.shownAll, listText_nil]
      exact .listEmpty h1 h2 h3
    | cons y l => exact .list h1 h2 h3 hn (by simpa using hk.length_eq) fun i z e => hk.item i z (by simpa using e)
  | .tuple xs, _, .tuple (a := a) (vs := vs) h1 h2 h3 h4, f => by
    obtain ⟨bs, hb, hk⟩ := RX.showsAll xs h4 f.tuple
    obtain ⟨as, r⟩ := RX.reads (.tuple xs) (.tuple h1 h2 h3 h4)
    refine ⟨a :: bs, .cons r (by rw [PyData.depth]; omega) hb, ?_⟩
    rw [PyData.depth, PyData.shown]
    exact .tuple h1 h2 h3 (not_mem_of_deeper r (by rw [PyData.depth]; omega) hb) hk
  | .dict kvs, _, .dict (a := a) (es := es) h1 h2 h3 h4 h5 h6, f => by
    obtain ⟨b1, b2, hb1, k1, hb2, k2⟩ := RX.showsKv kvs h5 h6 f.dict
    obtain ⟨as, r⟩ := RX.reads (.dict kvs) (.dict h1 h2 h3 h4 h5 h6)
    have hb : ReadAtMost h (PyData.depthKv kvs) (b1 ++ b2) := .append hb1 hb2
    refine ⟨a :: (b1 ++ b2), .cons r (by rw [PyData.depth]; omega) hb, ?_⟩
    rw [PyData.depth, PyData.shown, PyData.shownKv_eq]
    exact .dict h1 h2 h3 h4 (not_mem_of_deeper r (by rw [PyData.depth]; omega) hb) (.of_two es.toList _ _ (k1.more_le (fun b q => List.mem_append_left _ q) (Nat.le_refl _)) (k2.more_le (fun b q => List.mem_append_right _ q) (Nat.le_refl _)))
theorem RX.showsAll : ∀ (ds : List PyData) {vs : List Value}, Paired (RX h) vs ds → (∀ d ∈ ds, Fit d) → ∃ bs, ReadAtMost h (PyData.depthAll ds) bs ∧ ReprAllK P w bs h (PyData.depthAll ds) vs (PyData.shownAll ds)
  | [], _, .nil, _ => ⟨[], fun _ q => (nomatch q), .nil⟩
  | d :: ds, _, .cons r t, f => by
    obtain ⟨b1, h1, k1⟩ := RX.shows d r (f d List.mem_cons_self)
    obtain ⟨b2, h2, k2⟩ := RX.showsAll ds t fun x q => f x (List.mem_cons_of_mem _ q)
    refine ⟨b1 ++ b2, ?_, ?_⟩
    · rw [PyData.depthAll]; exact .append (h1.mono (Nat.le_max_left _ _)) (h2.mono (Nat.le_max_right _ _))
    · rw [PyData.depthAll, PyData.shownAll]
      exact .cons ((k1.more fun b q => List.mem_append_left _ q).level_le (Nat.le_max_left _ _)) (k2.more_le (fun b q => List.mem_append_right _ q) (Nat.le_max_right _ _))
theorem RX.showsKv : ∀ (ds : List (PyData × PyData)) {vs us : List Value}, Paired (RX h) vs (ds.map (·.1)) → Paired (RX h) us (ds.map (·.2)) → (∀ d ∈ ds, Fit d.1 ∧ Fit d.2) →
    ∃ b1 b2, ReadAtMost h (PyData.depthKv ds) b1 ∧ ReprAllK P w b1 h (PyData.depthKv ds) vs (PyData.shownAll (ds.map (·.1))) ∧ ReadAtMost h (PyData.depthKv ds) b2 ∧ ReprAllK P w b2 h (PyData.depthKv ds) us (PyData.shownAll (ds.map (·.2)))
  | [], _, _, .nil, .nil, _ => ⟨[], [], fun _ q => (nomatch q), .nil, fun _ q => (nomatch q), .nil⟩
  | (x, y) :: ds, _, _, .cons r t, .cons r' t', f => by
    obtain ⟨a1, h1, k1⟩ := RX.shows x r (f _ List.mem_cons_self).1
    obtain ⟨a2, h2, k2⟩ := RX.shows y r' (f _ List.mem_cons_self).2
    obtain ⟨b1, b2, g1, j1, g2, j2⟩ := RX.showsKv ds t t' fun z q => f z (List.mem_cons_of_mem _ q)
    rw [PyData.depthKv, List.map_cons, List.map_cons, PyData.shownAll, PyData.shownAll]
    have m1 : PyData.depth x ≤ max (max (PyData.depth x) (PyData.depth y)) (PyData.depthKv ds) := by omega
    have m2 : PyData.depth y ≤ max (max (PyData.depth x) (PyData.depth y)) (PyData.depthKv ds) := by omega
    have m3 : PyData.depthKv ds ≤ max (max (PyData.depth x) (PyData.depth y)) (PyData.depthKv ds) := by omega
    exact ⟨a1 ++ b1, a2 ++ b2, .append (h1.mono m1) (g1.mono m3), .cons ((k1.more fun b q => List.mem_append_left _ q).level_le m1) (j1.more_le (fun b q => List.mem_append_right _ q) m3),
      .append (h2.mono m2) (g2.mono m3), .cons ((k2.more fun b q => List.mem_append_left _ q).level_le m2) (j2.more_le (fun b q => List.mem_append_right _ q) m3)⟩
end
/-- repr(x) -/
theorem RX.repr {d : PyData} {v : Value} {A : Around} {E : Value → Shared → Prop} {s : Shared} {Q : Value → Shared → Prop} (r : RX s.heap v d) (f : Fit d) (hg : A.guards = some []) (hu : A.units + (d.depth + 1) < cLine)
    (hQ : ∀ h' u tk, (∀ b o, s.heap.get? b = some o → h'.get? b = some o) → Q (.str d.shown u) { s with heap := h', toks := tk }) : wpAny (model P w) A (call (.builtin "repr") [v]) Q E s := by
  cases r with
  | none => exact PySem.P.repr_of_none (by have := hQ s.heap s.toks (s.toks + 1) (fun _ _ e => e); rwa [PyData.shown] at this)
  | bool b => exact PySem.P.repr_of_bool (by have := hQ s.heap s.toks (s.toks + 1) (fun _ _ e => e); rw [PyData.shown] at this; cases b <;> exact this)
  | int i t => exact PySem.P.repr_of_int (by simpa [PyData.showable] using f.1) (by have := hQ s.heap s.toks (s.toks + 1) (fun _ _ e => e); rwa [PyData.shown] at this)
  | str x t => exact PySem.P.repr_of_str (by have := hQ s.heap s.toks (s.toks + 1) (fun _ _ e => e); rwa [PyData.shown] at this) (by simpa only [PyData.shown] using f.2)
  | @list a o vs n xs h1 h2 h3 h4 =>
    obtain ⟨bs, hb, hk⟩ := RX.showsAll (P := P) (w := w) xs h4 f.list
    obtain ⟨as, r⟩ := RX.reads (.list xs) (.list h1 h2 h3 h4)
    have hn : a ∉ bs := not_mem_of_deeper r (by rw [PyData.depth]; omega) hb
    have hz : (listText (PyData.shownAll xs)).length ≤ sizeLine := by simpa only [PyData.shown] using f.2
    rw [PyData.depth] at hu
    rw [PyData.shown] at hQ
    refine call_repr_slot (by omega) (T := "list") ⟨o, h1, h2⟩ F.slot_list_repr.toG ?_
    obtain ⟨l⟩ := vs
    cases l with
    | nil =>
      have h4 : Paired (RX s.heap) [] xs := h4
      cases h4
      rw [PyData.shownAll, listText_nil] at hQ
      exact call_list_repr_empty ⟨o, h1, h2⟩ h1 h3 ⟨_, _, rfl, hQ s.heap _ _ fun _ _ e => e⟩
    | cons y l => exact call_list_reprK h1 h2 h3 hn (by simpa using hk.length_eq) (fun i z e => hk.item i z (by simpa using e)) hg (fun b _ => Clear.nil b) (by show A.units + 1 + _ < cLine; omega) (fun _ _ e => e) (fun h' u tk q => ⟨_, _, rfl, hQ h' u tk q⟩) hz
  | @tuple a o vs n xs h1 h2 h3 h4 =>
    obtain ⟨bs, hb, hk⟩ := RX.showsAll (P := P) (w := w) xs h4 f.tuple
    obtain ⟨as, r⟩ := RX.reads (.tuple xs) (.tuple h1 h2 h3 h4)
    have hn : a ∉ bs := not_mem_of_deeper r (by rw [PyData.depth]; omega) hb
    have hz : (tupleText (PyData.shownAll xs)).length ≤ sizeLine := by simpa only [PyData.shown] using f.2
    rw [PyData.depth] at hu
    rw [PyData.shown] at hQ
    exact call_repr_slot (by omega) (T := "tuple") ⟨o, h1, h2⟩ F.slot_tuple_repr (call_tuple_reprK h1 h2 h3 hn hk hg (fun b _ => Clear.nil b) (by show A.units + 1 + _ < cLine; omega) (fun _ _ e => e) (fun h' u tk q => ⟨_, _, rfl, hQ h' u tk q⟩) hz)
  | @dict a o es n kvs h1 h2 h3 h4 h5 h6 =>
    obtain ⟨b1, b2, hb1, k1, hb2, k2⟩ := RX.showsKv (P := P) (w := w) kvs h5 h6 f.dict
    obtain ⟨as, r⟩ := RX.reads (.dict kvs) (.dict h1 h2 h3 h4 h5 h6)
    have hb : ReadAtMost s.heap (PyData.depthKv kvs) (b1 ++ b2) := .append hb1 hb2
    have hz : (dictText (PyData.shownKv kvs)).length ≤ sizeLine := by simpa only [PyData.shown] using f.2
    rw [PyData.depth] at hu
    rw [PyData.shown, PyData.shownKv_eq] at hQ
    exact call_repr_slot (by omega) (T := "dict") ⟨o, h1, h2⟩ F.slot_dict_repr (call_dict_reprK h1 h2 h3 h4 (not_mem_of_deeper r (by rw [PyData.depth]; omega) hb)
      (.of_two es.toList _ _ (k1.more_le (fun b q => List.mem_append_left _ q) (Nat.le_refl _)) (k2.more_le (fun b q => List.mem_append_right _ q) (Nat.le_refl _))) hg (fun b _ => Clear.nil b) (by show A.units + 1 + _ < cLine; omega) (fun _ _ e => e) (fun h' u tk q => ⟨_, _, rfl, hQ h' u tk q⟩) (by rw [← PyData.shownKv_eq]; exact hz))
end

section
variable {X : Cx} {pins : List (Addr × Obj)} {σ : L2.St} {H : Hp} {s : Shared} {S : Addr → Prop}
theorem RX.int' {h : Heap} {v : Value} {i : Int} {t : Tok} (e : v = .int i t) : RX h v (.int i) := by rw [e]; exact .int i t
theorem RX.str' {h : Heap} {v : Value} {i : Str} {t : Tok} (e : v = .str i t) : RX h v (.str i) := by rw [e]; exact .str i t
theorem keys_rx {h : Heap} {K : PySem.W.Frag} : ∀ {kvs : List (Key × D)} {kws : List (Key × V)} {vs : List (Key × Value)} {es : List DictEntry}, RepK K S H kvs kws → L2.KV kws vs → Pairs (mixKind P w) es vs → Paired (RX h) (es.map (·.key)) ((pyk kvs).map (·.1))
  | [], _, _, _, r, k, p => by
    have e : _ = [] := r
    rw [e] at k
    cases k
    cases p
    exact .nil
  | (k, x) :: kvs, _, _, _, r, q, p => by
    obtain ⟨v, ws, rfl, _, r2⟩ := r
    cases q with
    | @cons _ b _ bs hk q =>
      cases p with
      | cons h1 h2 p =>
        have ih := keys_rx (h := h) r2 q p
        have e : k = b.1 := hk.1
        rw [← e] at h1
        rcases keyIs_shape h1 with ⟨i, t, e1, e2⟩ | ⟨y, t, e1, e2⟩
        · rw [e1]
          exact .cons (RX.int' e2) ih
        · rw [e1]
          exact .cons (RX.str' e2) ih
theorem ins_show {c f : Str} {x : D} : (py (.ins c f x)).showable = false := by
  unfold py PyData.showable PyData.showableKv PyData.showable
  have h : ¬ ((2 : Int) ^ 2000).natAbs.log2 < 1920 := by decide +kernel
  simp [h]
mutual
theorem Rep.rx (I : Inv X pins σ H s) : ∀ (d : D) (v : V) (u : Value), (py d).showable = true → Rep X.K S H d v → RelV v u → RX s.heap u (py d)
  | .non, v, u, _, r, q => by cases r; cases q; exact .none
  | .bl b, v, u, _, r, q => by cases r; cases q; exact .bool b
  | .int i, v, u, _, r, q => by cases r; obtain ⟨t, rfl⟩ := q; exact .int i t
  | .str x, v, u, _, r, q => by obtain ⟨rfl, _⟩ := r; obtain ⟨t, rfl⟩ := q; exact .str x t
  | .lst xs, v, u, hs, r, q => by
    obtain ⟨a, vs, rfl, r1, _, r2⟩ := r
    cases q
    obtain ⟨its, rv, ⟨⟨cls, dd, data, sl⟩, n, ho, hc, hdn, hdt⟩, _⟩ := I.list r1.sq
    exact .list ho hc hdt (Reps.rx I xs vs _ (by simpa [py, PyData.showable] using hs) r2 rv)
  | .tup xs, v, u, hs, r, q => by
    obtain ⟨a, vs, rfl, r1, _, r2⟩ := r
    cases q
    obtain ⟨its, rv, ⟨o, ho, hc, n, hdt⟩, _⟩ := I.tuple r1.sq
    exact .tuple ho hc hdt (Reps.rx I xs vs _ (by simpa [py, PyData.showable] using hs) r2 rv)
  | .ins c f x, v, u, hs, _, _ => absurd hs (by rw [ins_show]; exact Bool.false_ne_true)
  | .dic kvs, v, u, hsh, r, q => by
    obtain ⟨a, kws, rfl, ⟨_, r1⟩, r2⟩ := r
    cases q
    obtain ⟨_, hs, vs, kv, o, es, ep, ho, hx, hdt, _, hp, _⟩ : kws.length ≤ sizeLine ∧ (a == sysModules) = false ∧ ∃ vs, L2.KV kws vs ∧ s.heap.DictOf (mixKind X.prog X.w) a vs := dk_rd I.hok r1
    exact .dict ho hx.1 hdt hs (keys_rx r2 kv hp) (RepK.rx I kvs kws vs _ (by simpa [py, PyData.showable] using hsh) r2 kv hp)
theorem Reps.rx (I : Inv X pins σ H s) : ∀ (xs : List D) (vs : List V) (us : List Value), PyData.showableAll (pys xs) = true → Reps X.K S H xs vs → Vals vs us → Paired (RX s.heap) us (pys xs)
  | [], _, _, _, r, q => by
    have e : _ = [] := r
    rw [e] at q
    cases q
    exact .nil
  | x :: xs, _, _, hs, r, q => by
    obtain ⟨v, ws, rfl, r1, r2⟩ := r
    have hs : (py x).showable = true ∧ PyData.showableAll (pys xs) = true := by simpa [pys, PyData.showableAll] using hs
    cases q with
    | cons q1 q2 => exact .cons (Rep.rx I x v _ hs.1 r1 q1) (Reps.rx I xs ws _ hs.2 r2 q2)
theorem RepK.rx (I : Inv X pins σ H s) : ∀ (kvs : List (Key × D)) (kws : List (Key × V)) (vs : List (Key × Value)) (es : List DictEntry), PyData.showableKv (pyk kvs) = true → RepK X.K S H kvs kws → L2.KV kws vs → Pairs (mixKind X.prog X.w) es vs → Paired (RX s.heap) (es.map (·.val)) ((pyk kvs).map (·.2))
  | [], _, _, _, _, r, q, p => by
    have e : _ = [] := r
    rw [e] at q
    cases q
    cases p
    exact .nil
  | (k, x) :: kvs, _, _, _, hsh, r, q, p => by
    obtain ⟨v, ws, rfl, r1, r2⟩ := r
    have hsh2 : (py x).showable = true ∧ PyData.showableKv (pyk kvs) = true := by cases k <;> simp [pyk, PyData.showableKv] at hsh <;> exact ⟨by simp_all, by simp_all⟩
    cases q with
    | @cons _ b _ bs hk q =>
      cases p with
      | cons h1 h2 p =>
        have ih := RepK.rx I kvs ws bs _ hsh2.2 r2 q p
        have hd := Rep.rx I x v b.2 hsh2.1 r1 hk.2
        rw [← h2] at hd
        cases k with
        | inl i => exact .cons hd ih
        | inr i => exact .cons hd ih
end
end
end PL

/-! The layer: the source of draws [cells, turn, rest], and a draw. -/
namespace PL
open PySem PySem.Spec L2

/-- the list of the cells, the turn, the rest; at most n draws so far -/
def penG : PenK where
  inv := fun H a b n => a ≠ b ∧ ∃ (cs : List Int) (t g : Int), H a = some (.lst [.ref b, .int t, .int g]) ∧ H b = some (.lst (cs.map V.int)) ∧ cs.length ≤ 63 ∧ 0 ≤ t ∧ t ≤ n ∧ 0 ≤ g
  dep := fun ⟨h0, cs, t, g, h1, h2, h3⟩ e1 e2 => ⟨h0, cs, t, g, e1.trans h1, e2.trans h2, h3⟩
  there := fun ⟨_, cs, t, g, h1, h2, _⟩ => ⟨(by rw [h1]; exact fun z => (nomatch z)), (by rw [h2]; exact fun z => (nomatch z))⟩
  isL := fun ⟨_, cs, t, g, h1, h2, _⟩ => ⟨⟨_, h1⟩, _, h2⟩
/-- .. with tables of code objects, the module's names -/
def PenK.wt (G : PenK) (T : List (Addr × Str)) (mg : Str → Option Value) : PenK := { G with tab := T, mg := mg }
def drawMax : Nat := 4000000
/-- any number below b -/
def drawB (b : Int) : W D := fun n P _ => n.n < drawMax ∧ 0 < b ∧ b < 1073741824 ∧ ∀ r k, 0 ≤ r → r < b → n.n ≤ k → k ≤ n.n + 1 → P (.int r) ⟨k, n.μ⟩
def drawM : List SV → W D
  | [.pen, .d (.int b)] => drawB b
  | _ => stuck

theorem drawM_inv {args : List SV} {n : Nt} {P : D → Nt → Prop} {PX : Exc → Nt → Prop} (h : drawM args n P PX) :
    ∃ b, args = [.pen, .d (.int b)] ∧ n.n < drawMax ∧ 0 < b ∧ b < 1073741824 ∧ ∀ r k, 0 ≤ r → r < b → n.n ≤ k → k ≤ n.n + 1 → P (.int r) ⟨k, n.μ⟩ := by
  unfold drawM at h
  split at h
  · exact ⟨_, rfl, h⟩
  · exact h.elim
theorem u64 {A : Around} {k : Nat} (r : Room k A) : A.units + 64 < cLine := by
  have := r.un
  omega
theorem rd_ix {K : PySem.W.Frag} {σ : L2.St} {H : Hp} {Q : VK} {a : Addr} {L : List V} {i : Nat} (j : Nat) {v : V} (e : σ[i]? = some (some (.ref a))) (h : H a = some (.lst L)) (hv : L[j]? = some v) (q : Q v H) : tOp (rIxL K) (tVar i) (tC (.int j)) σ H Q :=
  ⟨.ref a, e, a, L, j, v, rfl, rfl, SqL.of h, atI_nat hv, q⟩
theorem wr_ix {σ : L2.St} {H : Hp} {Q : L2.St → Hp → Prop} {a : Addr} {L : List V} {i : Nat} (j : Nat) {v : V} (e : σ[i]? = some (some (.ref a))) (h : H a = some (.lst L)) (hj : j < L.length) (q : Q σ (upd H a (.lst (L.set j v)))) : gSub (tVar i) (tC (.int j)) rSetL v σ H Q :=
  ⟨.ref a, e, a, L, j, j, rfl, rfl, h, by unfold ixN; rw [if_pos (by omega), if_pos (by omega)]; rfl, q⟩
theorem sq_le {t : Int} {n : Int} (h0 : 0 ≤ t) (h1 : t ≤ n) : t * t ≤ n * n := Int.mul_le_mul h1 h1 h0 (Int.le_trans h0 h1)
theorem eqv_nil {cs : List Int} : PyData.eqv (.list (cs.map PyData.int)) (.list []) = cs.isEmpty := by
  cases cs <;> simp [PyData.eqv, PyData.eqvAll]
theorem shaped_ints (cs : List Int) : SeqAt.shaped (.list (cs.map PyData.int)) = true := by
  have h1 : ∀ l : List Int, PyData.canLayAll0 (l.map PyData.int) = true := fun l => by
    induction l with
    | nil => simp [PyData.canLayAll0]
    | cons x l ih => simp [PyData.canLayAll0, PyData.canLay0, ih]
  have h2 : ∀ l : List Int, PyData.depthAll (l.map PyData.int) = 0 := fun l => by
    induction l with
    | nil => simp [PyData.depthAll]
    | cons x l ih => simp [PyData.depthAll, PyData.depth, ih]
  simp [SeqAt.shaped, PyData.canLay0, PyData.depth, h1 cs, h2 cs]
theorem dp_ints {K : PySem.W.Frag} {H : Hp} : ∀ cs : List Int, DpAll K H (cs.map V.int) (cs.map PyData.int)
  | [] => .nil
  | c :: cs => .cons (.int c) (dp_ints cs)
theorem tab_eq {S : Addr → Prop} {H H2 : Hp} {a P : Addr} {q : Str} (sm : ∀ x o, x ≠ a → H x = some o → H2 x = some o) (t : TabI S H P q) (haL : ∃ xs, H a = some (.lst xs)) : H2 P = H P := by
  obtain ⟨ps, h1, _⟩ := t
  obtain ⟨xs, h2⟩ := haL
  rw [h1]
  exact sm P _ (fun z => by rw [z, h2] at h1; cases h1) h1
/-- the state of the source behind a change of its list alone -/
theorem After.draw {S : Addr → Prop} {H H2 : Hp} {a b : Addr} {cs : List Int} {t g : Int} {k : Nat} (hne : a ≠ b) (dom : ∀ x, S x → H x ≠ none) (ha : H a ≠ none) (nSa : ¬ S a) (nSb : ¬ S b) (hb : H b = some (.lst (cs.map V.int))) {T : List (Addr × Str)} {mg : Str → Option Value} (htb : ∀ q ∈ T, ¬ S q.1 ∧ TabI S H q.1 q.2) (haL : ∃ xs, H a = some (.lst xs)) {K : PySem.W.Frag} {n : Nt} (hm : MuOk (penG.wt T mg) K S H (some (a, b)) n)
    (sm : ∀ x o, x ≠ a → H x = some o → H2 x = some o) (h2 : H2 a = some (.lst [.ref b, .int t, .int g])) (h3 : cs.length ≤ 63) (ht : 0 ≤ t) (hk : t ≤ k) (hg : 0 ≤ g) : After (penG.wt T mg) K S S (some (a, b)) n H H2 ⟨k, n.μ⟩ := by
  have eqS : ∀ x, S x → H2 x = H x := fun x hx => by
    cases e : H x with
    | none => exact absurd e (dom x hx)
    | some o => exact sm x o (fun z => nSa (z ▸ hx)) e
  refine ⟨⟨fun _ h => h, eqS⟩, fun x hx => by rw [eqS x hx]; exact dom x hx, fun x hx => .inl hx, fun x o e hp _ _ => sm x o (hp (a, b) rfl).1 e, fun q hq => TabI.grow ⟨fun _ h => h, eqS⟩ (tab_eq sm (htb q hq).2 haL) (htb q hq).2, fun p e => ?_, fun x nd e => ?_, fun _ h => h, hm.2⟩
  · cases e
    exact ⟨⟨hne, cs, t, g, h2, sm b _ (Ne.symm hne) hb, h3, ht, hk, hg⟩, nSa, nSb⟩
  · obtain ⟨m1, m2, m3, m4⟩ := hm.1 x nd e
    obtain ⟨o, eo⟩ := Option.ne_none_iff_exists'.mp m1.there
    exact ⟨m1.grow ⟨fun _ h => h, eqS⟩ ((sm x o (m3 (a, b) rfl).1 eo).trans eo.symm), m2, .inl (by rw [e]; exact fun z => nomatch z)⟩
end PL

/-! The layer: a law's own def, its end. -/
namespace PL
open PySem PySem.Spec PyProof.Rows L2

/-- what the law's def promises: True, whatever the script -/
def spLaw (K : PySem.W.Frag) : Sp := fun vs H Q _ => ∃ (a : Addr) (ns : List Int), vs = [.ref a] ∧ SqL K H a (ns.map V.int) ∧ ns.length ≤ 63 ∧ ∀ H', Q (.bl true) H'

section
variable {P : Program} {w : World} {K : PySem.W.Frag} {mg mb : Str → Option Value}
/-- the law is called over a heap in which the script alone may be told -/
theorem law_core {k : Nat} {fa a : Addr} {fd : FuncData} {x : Str} {s : Shared} {vs : List Value} {ns : List Int} {H : Hp} (kin : K.In s.heap) (hns : s.heap.Ns mainGlobals mg) (hb : s.heap.Ns builtinsNs mb) (hbb : ∀ y : Str, y ≠ "__name__" → mb y = bootBuiltins y) (hlim : s.heap.NoLimit) (hgen : s.gens = #[])
    (ho : s.heap.get? a = some { cls := .type "list", data := .seq vs.toArray }) (hl : ns.length ≤ 63) (hr : Room k callerA) (F : ∀ base : Heap, K.In base → base.Ns mainGlobals mg → FnG P w K mg base k fa fd [x] (spLaw K)) (hbind : ∀ (s : Shared) (u : Value), BindsTo s fd ⟨[u], []⟩ [(x, u)])
    (only : ∀ b, H b ≠ none → b = a ∧ ∃ o u, H b = some (.frz o (.lst u))) (seq : SqL K H a (ns.map V.int)) (ok : HOk P w H s.heap) (notK : H a ≠ none → K.lookup a = none) :
    codeAny (model P w) callerA (.call (.ref fa) ⟨[.ref a], []⟩) (fun r s' => r = .ok (.ret (.bool true)) ∧ OldK s.heap s'.heap ∧ s'.os = s.os ∧ AllBare s'.gens) s := by
  have outside : ∀ {b o}, s.heap.get? b = some o → b ≠ a → (hidT s.heap H).get? b = some o := fun {b o} e n => hidT_get e (Classical.byContradiction fun z => n (only b z).1)
  have dictOut : ∀ {b : Addr} {m : Str → Option Value}, s.heap.Ns b m → (hidT s.heap H).Ns b m := fun {b m} ⟨o, es, ep, e, d, r⟩ => ⟨o, es, ep, outside e (fun z => by rw [z, ho] at e; cases e; cases d), d, r⟩
  have kin' : K.In (hidT s.heap H) := fun b o e => hidT_get (kin b o e) (Classical.byContradiction fun z => by
    have q := only b z
    rw [q.1] at z e
    rw [notK z] at e
    cases e)
  have mod : Mod K mg (hidT s.heap H) := ⟨kin', dictOut hns, ⟨mb, dictOut hb, hbb⟩, by obtain ⟨mc, h1, h2⟩ := hlim; exact ⟨mc, dictOut h1, h2⟩⟩
  have e0 : Env0 P w K mg (hidT s.heap H) callerA [] s H := ⟨rfl, mod, fun _ _ e => of_hidT e, Nat.le_of_eq (hidT_size _ _), trivial, fun b hb => absurd hb (by simp [frs]), ok, .of_eq hgen⟩
  refine codeAny_mono ((F _ kin' (dictOut hns)).run callerA [] s H ⟨[.ref a], []⟩ [.ref a] [.ref a] (fun v _ => v = .bl true) (fun _ _ _ => False) rfl hr e0 (hbind s (.ref a)) (.cons rfl .nil) ⟨a, ns, rfl, seq, hl, fun _ => rfl⟩) fun r s' h => ?_
  cases r with
  | error e => obtain ⟨_, _, _, _, _, _, _, _, _, _, _, _, z⟩ := h; exact z.elim
  | ok fl =>
    cases fl with
    | ret u =>
      obtain ⟨v, H', os, bare, un, hok', r', rfl⟩ := h
      obtain rfl : u = Value.bool true := r'
      refine ⟨rfl, OldK.of_keep fun b o e => ?_, os, bare⟩
      by_cases q : H b = none
      · exact un.keep b o e q (by simp [frs]) (by simp)
      · obtain ⟨_, o2, u, h2⟩ := only b q
        have e1 := (ok b _ h2).1
        rw [e] at e1
        cases e1
        exact (hok' b _ (un.frzs b o (.lst u) h2)).1
    | next => exact h.elim
    | brk => exact h.elim
    | cont => exact h.elim
theorem law_run {k : Nat} {fa a : Addr} {fd : FuncData} {x : Str} {s : Shared} {vs : List Value} {ns : List Int} (kin : K.In s.heap) (hns : s.heap.Ns mainGlobals mg) (hb : s.heap.Ns builtinsNs mb) (hbb : ∀ y : Str, y ≠ "__name__" → mb y = bootBuiltins y) (hlim : s.heap.NoLimit) (hgen : s.gens = #[])
    (ho : s.heap.get? a = some { cls := .type "list", data := .seq vs.toArray }) (hi : IntsAre vs ns) (hl : ns.length ≤ 63) (hr : Room k callerA) (F : ∀ base : Heap, K.In base → base.Ns mainGlobals mg → FnG P w K mg base k fa fd [x] (spLaw K)) (hbind : ∀ (s : Shared) (u : Value), BindsTo s fd ⟨[u], []⟩ [(x, u)]) :
    codeAny (model P w) callerA (.call (.ref fa) ⟨[.ref a], []⟩) (fun r s' => r = .ok (.ret (.bool true)) ∧ OldK s.heap s'.heap ∧ s'.os = s.os ∧ AllBare s'.gens) s := by
  have rv := vals_ints hi
  have big : ns.length ≤ sizeLine := Nat.le_trans hl (by rw [sizeLine_eq]; decide)
  by_cases hk : K.lookup a = none
  · refine law_core (H := fun b => if b = a then some (.frz { cls := .type "list", data := .seq vs.toArray } (.lst (ns.map V.int))) else none) kin hns hb hbb hlim hgen ho hl hr F hbind (fun b z => ?_) (.inl (.inr ⟨_, if_pos rfl⟩)) (fun b u z => ?_) fun _ => hk
    · by_cases e : b = a
      · exact ⟨e, _, _, if_pos e⟩
      · exact absurd (if_neg e) z
    · by_cases e : b = a
      · have z2 := (if_pos e).symm.trans z
        cases z2
        subst e
        exact ⟨ho, by rw [List.length_map]; exact big, vs, _, rv, ho⟩
      · have z2 := (if_neg e).symm.trans z
        cases z2
  · obtain ⟨o, ek⟩ := Option.ne_none_iff_exists'.mp hk
    have e := kin a o ek
    rw [ho] at e
    cases e
    exact law_core (H := fun _ => none) kin hns hb hbb hlim hgen ho hl hr F hbind (fun b z => absurd rfl z) (.inr ⟨_, vs.toArray, _, ek, rfl, rfl, rfl, by rw [List.size_toArray, hi.length]; exact big, by simpa using rv⟩) (fun b u z => nomatch z) fun z => absurd rfl z
/-- THE END of a law's row -/
theorem law_end {l : PySem.W.OpenLaw} {k : Nat} {q : Program} {loose : List Str} {XP : (Str → Option Value) → Heap → Prop} {YP : World → Heap → Prop} {d : DefRec} {Kf : Params → PySem.W.Frag} {x : Str} (hn : l.most = some 63) (hdf : d.params.defaults = []) (hr : Room k callerA) (hY : ∀ (w : World) (h : Heap), YP w h → (Kf w.params).In h)
    (F : ∀ (w : World) (mg : Str → Option Value) (fa : Addr) (h : Heap), (Kf w.params).In h → h.Ns mainGlobals mg → mg d.name = some (.ref fa) → ∃ fd : FuncData, (∀ (s : Shared) (u : Value), BindsTo s fd ⟨[u], []⟩ [(x, u)]) ∧
      ∀ base : Heap, (Kf w.params).In base → base.Ns mainGlobals mg → FnG l.prog w (Kf w.params) mg base k fa fd [x] (spLaw (Kf w.params))) :
    PySem.W.WalkO q loose XP YP l.row.toRowW d [] (fun f vs => PySem.call f vs) := by
  refine Att.attach_callB hn hdf fun w s₀ s₁ mg mb fa o pm cd doc a vs ns Gr Y ho hd hcd hmg hobj hi hl _ hg => ?_
  obtain ⟨fd, hb, hF⟩ := F w mg fa _ (hY w _ Y) Gr.T.g hmg
  exact law_run (hY w _ Y) Gr.T.g Gr.T.b Gr.T.builtins Gr.T.nolimit hg hobj hi hl hr hF hb
end

/-- a call of a def by its bare promise -/
theorem pe_callG {X : Cx} {Wx : WX} {k : Nat} {f : Addr} {fd : FuncData} {ps : List Str} {sp : Sp} {x : Str} {p pos : Pos} {e : Expr} {es : List Expr} {t : TA} (F : FnG X.prog X.w X.K X.mg X.base k f fd ps sp) (hgd : X.A.guards = some []) (hr : Room k X.A) (tk : Takes X Wx) (hg : Gl X x) (hm : X.mg x = some (.ref f)) (hk : PySem.W.keepIn X.K (.ref f) = true)
    (hb : Binds X.K fd ps []) (ha : PA X (e :: es) t) (hdb : (x == ("__debug__" : Str)) = false) (he : starEach (e :: es) X.env = (false, eval e X.env) :: starEach es X.env := by rfl) (hpl : (backTo pos (starEach es X.env)).any (·.1) = false := by rfl) :
    PE X (.Call (.Name x p) (e :: es) [] pos) (fun σ H Q => t σ H fun vs H1 => sp vs H1 Q (WE Wx σ)) :=
  ⟨fun pins s σ H Q I h => by
    refine wpAny_Call_Name_kw (ld_glob I hg hm ?_ hdb)
    refine PySem.W.callWith_K (h₀ := X.base) I.ok.mod.kin hk (thn (ha.run pos pins s σ H _ I h) fun us s1 ⟨vs, H1, I1, r1, q1⟩ => ⟨I1.kIn, ?_⟩) he hpl
    have hb1 := hb s1 us I1.kIn (by rw [List.append_nil, ← r1.length]; exact F.len _ _ _ _ q1)
    rw [List.append_nil] at hb1
    exact run_call F hgd hr tk I1 hb1 r1 q1⟩
end PL

/-! The layer: written dicts, calls by names. -/
namespace PL
open PySem PySem.Spec PyProof.Rows L2
section
variable {G : PenK} {X : Cx} {Wx : WX}
end
end PL

/-! The layer: enumerate of a list or a tuple; name = [..] on one line. -/
namespace PL
open PySem PySem.Spec PyProof.Rows L2

set_option maxHeartbeats 1000000 in
theorem new_enumB {v : Value} {o : Obj} {HH : Heap → Prop} (B : Begins v o HH) :
    Meets (Builtin.«enumerate.__new__» ⟨[.type "enumerate", v], []⟩) (fun _ R s => HH s.heap ∧ R (.ok (.ret (.ref (s.heap.push o).objs.size)))
      { s with heap := (s.heap.push o).push { cls := .type "enumerate", data := .fields #[.none, .bool false, .ref s.heap.objs.size, rawInt 0, .none, .none] } }) :=
  .of_wp fun prog w A R s hh => by
    obtain ⟨hp, ge, di, tk, oss⟩ := s
    obtain ⟨h1, hR⟩ := hh
    have hsub := sub_enumerate
    have q1 : ∀ {A2 : Around} {E2 : Value → Shared → Prop} {Q2 : Value → Shared → Prop}, Q2 (.ref hp.objs.size) ⟨hp.push o, ge, di, tk, oss⟩ → wpAny (model prog w) A2 (pyIter v) Q2 E2 ⟨hp, ge, di, tk, oss⟩ :=
      fun q => B.iter prog w _ _ ⟨hp, ge, di, tk, oss⟩ _ h1 q
    wp_walk using q1
    refine wpAny_stack_any fun stk => wpAny_pure ?_
    split
    · rename_i cl _ _ _ _ _
      cases (cl == Value.type "enumerate") <;>
      · wp_walk using q1
        exact ⟨_, rfl, hR⟩
    · wp_walk using q1
      exact ⟨_, rfl, hR⟩
theorem call_enumB {prog : Program} {w : World} {A : Around} {E : Value → Shared → Prop} {s : Shared} {v : Value} {o : Obj} {HH : Heap → Prop} {Q : Value → Shared → Prop} (B : Begins v o HH) (h1 : HH s.heap)
    (k : ∀ h', IsEnum h' (s.heap.objs.size + 1) s.heap.objs.size 0 .none → h'.get? s.heap.objs.size = some o → (∀ b x, s.heap.get? b = some x → h'.get? b = some x) → Q (.ref (s.heap.objs.size + 1)) { s with heap := h' }) :
    wpAny (model prog w) A (PySem.call (.type "enumerate") [v]) Q E s := by
  refine callType_new F.called_enumerate (by decide) (F.typeCall_enumerate_1 _) (F.newCall_enumerate_1 _) (fun ob => F.args_object_init_2 ob _) F.entry_enumerate_new (new_enumB B) ⟨h1, ?_⟩
  have hz : (s.heap.push o).objs.size = s.heap.objs.size + 1 := Heap.size_push ..
  show _ ∧ _
  rw [hz]
  have he : IsEnum ((s.heap.push o).push { cls := .type "enumerate", data := .fields #[.none, .bool false, .ref s.heap.objs.size, rawInt 0, .none, .none] }) (s.heap.objs.size + 1) s.heap.objs.size 0 .none := by
    have q := Heap.get?_push_size (s.heap.push o) (o := { cls := .type "enumerate", data := .fields #[.none, .bool false, .ref s.heap.objs.size, rawInt 0, .none, .none] }) rfl
    rw [hz] at q
    exact q
  exact ⟨⟨_, he, rfl⟩, k _ he (Heap.get?_push_of_some _ (Heap.get?_push_size _ B.free)) fun b x e => Heap.get?_push_of_some _ (Heap.get?_push_of_some _ e)⟩

/-- the tuple at a, each item in a new pair -/
def Iet (K : PySem.W.Frag) (a : Addr) : It :=
  ⟨fun i H => ∃ (xs : List V) (x : V), SqT K H a xs ∧ xs[i]? = some x, fun i H v H' => ∃ T x o, v = .ref T ∧ H T = none ∧ o.dict = none ∧ H' = upd H T (.frz o (.tup [.int (i : Nat), x])) ∧ ∀ xs, SqT K H a xs → xs[i]? = some x, fun i H => ∃ xs : List V, SqT K H a xs ∧ xs.length ≤ i⟩
/-- the list at a, each item in a new pair -/
def Iel (K : PySem.W.Frag) (a : Addr) : It :=
  ⟨fun i H => ∃ (xs : List V) (x : V), SqL K H a xs ∧ xs[i]? = some x, fun i H v H' => ∃ T x o, v = .ref T ∧ H T = none ∧ o.dict = none ∧ H' = upd H T (.frz o (.tup [.int (i : Nat), x])) ∧ ∀ xs, SqL K H a xs → xs[i]? = some x, fun i H => ∃ xs : List V, SqL K H a xs ∧ xs.length ≤ i⟩
theorem turn_enumL {P : Program} {w : World} {K : PySem.W.Frag} {elts : List Expr} {kk : Nat} {tpos : Pos} (a e it : Addr) :
    Turn P w K (.Tuple elts kk tpos) (Iel K a) [e, it] e (fun i h => (∃ old, IsEnum h e it ((i : Nat) : Int) old) ∧ h.IsListIter it a i ∧ e ≠ it) where
  mem := by simp
  obj := fun i h st b hb => by
    obtain ⟨⟨old, he⟩, ⟨o, ho, hc, hd⟩, _⟩ := st
    rcases (show b = e ∨ b = it by simpa using hb) with z | z
    · rw [z]
      exact ⟨_, he, fun v q => by cases q⟩
    · rw [z]
      exact ⟨o, ho, fun v q => by rw [hd] at q; cases q⟩
  keep := fun i h h' st k => let ⟨⟨old, he⟩, hi, hne⟩ := st; ⟨⟨old, k e (by simp) _ he⟩, hi.at fun o q => k it (by simp) o q, hne⟩
  item := by
    intro X hP hw hK hc i pins s σ H E I hf st hg
    subst hP hw hK
    obtain ⟨⟨old, he⟩, hit, hne⟩ := st
    obtain ⟨xs, x, hq, hx⟩ := hg
    obtain ⟨its, rv, p, hz⟩ := I.list hq
    obtain ⟨u, hu, ru⟩ := rv.get hx
    have hel : e < s.heap.objs.size := Heap.lt_size he
    have hil : it < s.heap.objs.size := by obtain ⟨_, q, _⟩ := hit; exact Heap.lt_size q
    refine wpAny_pyNext_enum_item he hit p.isList (x := u) (by simpa using hu) hne fun h' ho hit' hT hsz hk => ?_
    refine ⟨_, rfl, wpAny_letOwnedTupleGo_enum (s := { s with heap := h', toks := s.toks + 1 }) ho fun h'' he' sb => ?_⟩
    have hT2 : h''.get? s.heap.objs.size = some { cls := .type "tuple", data := .seq #[.int i s.toks, u] } := (sb.2 _ (Nat.ne_of_gt hel)).trans hT
    have new : ObjOk X.prog X.w (upd H s.heap.objs.size (.frz { cls := .type "tuple", data := .seq #[.int i s.toks, u] } (.tup [.int (i : Nat), x]))) h'' s.heap.objs.size (.frz { cls := .type "tuple", data := .seq #[.int i s.toks, u] } (.tup [.int (i : Nat), x])) :=
      ⟨hT2, by show 2 ≤ sizeLine; decide, [.int i s.toks, u], .cons ⟨_, rfl⟩ (.cons ru .nil), ⟨_, hT2, rfl, _, rfl⟩⟩
    have I1 : Inv X pins σ (upd H s.heap.objs.size (.frz { cls := .type "tuple", data := .seq #[.int i s.toks, u] } (.tup [.int (i : Nat), x]))) { s with heap := h'', toks := s.toks + 1 } :=
      I.turnedNew (ch := [e, it]) (fun b ob hb q => (sb.2 b (fun z => hb (by simp [z]))).trans (hk b ob (fun z => hb (by simp [z])) (fun z => hb (by simp [z])) q)) hf (Nat.le_refl _) new
    refine ⟨.ref s.heap.objs.size, _, I1, rfl, ⟨_, x, _, rfl, I.hok.fresh (Nat.le_refl _), rfl, rfl, fun ys hy => by rw [I.list_inj hy hq]; exact hx⟩, ⟨⟨u, ?_⟩, hit'.at fun o q => (sb.2 it (Ne.symm hne)).trans q, hne⟩, fun b hb => ?_⟩
    · have e1 : ((i + 1 : Nat) : Int) = (i : Int) + 1 := by omega
      rw [e1]
      exact he'
    · have hb2 : b < s.heap.objs.size := by
        rcases (show b = e ∨ b = it by simpa using hb) with z | z
        · exact z ▸ hel
        · exact z ▸ hil
      rw [upd_ne (Nat.ne_of_lt hb2)]
      exact (hf b hb).1
  done := by
    intro X hP hw hK hc i pins s σ H E I hf st hg
    subst hP hw hK
    obtain ⟨⟨old, he⟩, hit, hne⟩ := st
    obtain ⟨xs, hq, hx⟩ := hg
    obtain ⟨its, rv, p, hz⟩ := I.list hq
    obtain ⟨f0, f1, f2, f3, f4, f5⟩ := hf it (by simp)
    have hl := rv.length
    exact wpAny_pyNext_enum_end (I.ok.hd hc) he hit p.isList (by simp; omega) fun h' eb => ⟨rfl, I.turned (t' := s.toks) (fun b o hb q => eb b o hb q) f0 f1 f3 f4 f5⟩
  self := fun A i s Q E st h => let ⟨⟨_, he⟩, _⟩ := st; wpAny_pyIter_enum he h
theorem enum_not_tuple {h : Heap} {e it a : Addr} {i : Int} {old : Value} {its : Array Value} (he : IsEnum h e it i old) (ht : h.IsTuple a its) : e ≠ a := fun z => by
  subst z
  obtain ⟨o, e1, e2, n, e3⟩ := ht
  have he : h.get? e = some _ := he
  rw [he] at e1
  cases e1
  cases e3
theorem turn_enumT {P : Program} {w : World} {K : PySem.W.Frag} {elts : List Expr} {kk : Nat} {tpos : Pos} (a e it : Addr) :
    Turn P w K (.Tuple elts kk tpos) (Iet K a) [e, it] e (fun i h => (∃ old, IsEnum h e it ((i : Nat) : Int) old) ∧ h.IsTupleIter it a i ∧ e ≠ it ∧ a ≠ it) where
  mem := by simp
  obj := fun i h st b hb => by
    obtain ⟨⟨old, he⟩, ⟨o, ho, hc, hd⟩, _⟩ := st
    rcases (show b = e ∨ b = it by simpa using hb) with z | z
    · rw [z]
      exact ⟨_, he, fun v q => by cases q⟩
    · rw [z]
      exact ⟨o, ho, fun v q => by rw [hd] at q; cases q⟩
  keep := fun i h h' st k => let ⟨⟨old, he⟩, hi, hne⟩ := st; ⟨⟨old, k e (by simp) _ he⟩, hi.at fun o q => k it (by simp) o q, hne⟩
  item := by
    intro X hP hw hK hc i pins s σ H E I hf st hg
    subst hP hw hK
    obtain ⟨⟨old, he⟩, hit, hne, hai⟩ := st
    obtain ⟨xs, x, hq, hx⟩ := hg
    obtain ⟨its, rv, p, hz⟩ := I.tuple hq
    have p2 : s.heap.IsTuple a its.toArray := p
    have hel : e < s.heap.objs.size := Heap.lt_size he
    have hil : it < s.heap.objs.size := by obtain ⟨_, q, _⟩ := hit; exact Heap.lt_size q
    have hea := enum_not_tuple he p2
    have hlt : i < its.toArray.size := by
      obtain ⟨u, hu, _⟩ := rv.get hx
      have := (List.getElem?_eq_some_iff.mp hu).1
      simpa using this
    refine wpAny_pyNext_enum_itemD (Draws.tuple (prog := X.prog) (w := X.w) (A := X.A.in1) (I.ok.hd hc) it a hai its.toArray) he (show s.heap.IsTupleIter it a i ∧ s.heap.IsTuple a its.toArray from ⟨hit, p2⟩) hlt hne (by simp [hne, hea]) fun u h' tk hu ho hst hT hsz hk => ?_
    obtain ⟨u', hu', ru⟩ := rv.get hx
    obtain rfl : u' = u := by
      have hu : its.toArray[i]? = some u := hu
      rw [List.getElem?_toArray, hu'] at hu
      exact Option.some.inj hu
    refine ⟨_, rfl, wpAny_letOwnedTupleGo_enum (s := { s with heap := h', toks := tk + 1 }) ho fun h'' he' sb => ?_⟩
    have hT2 : h''.get? s.heap.objs.size = some { cls := .type "tuple", data := .seq #[.int i tk, u'] } := (sb.2 _ (Nat.ne_of_gt hel)).trans hT
    have new : ObjOk X.prog X.w (upd H s.heap.objs.size (.frz { cls := .type "tuple", data := .seq #[.int i tk, u'] } (.tup [.int (i : Nat), x]))) h'' s.heap.objs.size (.frz { cls := .type "tuple", data := .seq #[.int i tk, u'] } (.tup [.int (i : Nat), x])) :=
      ⟨hT2, by show 2 ≤ sizeLine; decide, [.int i tk, u'], .cons ⟨_, rfl⟩ (.cons ru .nil), ⟨_, hT2, rfl, _, rfl⟩⟩
    have I1 : Inv X pins σ (upd H s.heap.objs.size (.frz { cls := .type "tuple", data := .seq #[.int i tk, u'] } (.tup [.int (i : Nat), x]))) { s with heap := h'', toks := tk + 1 } :=
      I.turnedNew (ch := [e, it]) (fun b ob hb q => (sb.2 b (fun z => hb (by simp [z]))).trans (hk b ob (fun z => hb (by simp [z])) (fun z => hb (by simp [z])) q)) hf (Nat.le_refl _) new
    refine ⟨.ref s.heap.objs.size, _, I1, rfl, ⟨_, x, _, rfl, I.hok.fresh (Nat.le_refl _), rfl, rfl, fun ys hy => by rw [I.tuple_inj hy hq]; exact hx⟩, ⟨⟨u', ?_⟩, hst.1.at fun o q => (sb.2 it (Ne.symm hne)).trans q, hne, hai⟩, fun b hb => ?_⟩
    · have e1 : ((i + 1 : Nat) : Int) = (i : Int) + 1 := by omega
      rw [e1]
      exact he'
    · have hb2 : b < s.heap.objs.size := by
        rcases (show b = e ∨ b = it by simpa using hb) with z | z
        · exact z ▸ hel
        · exact z ▸ hil
      rw [upd_ne (Nat.ne_of_lt hb2)]
      exact (hf b hb).1
  done := by
    intro X hP hw hK hc i pins s σ H E I hf st hg
    subst hP hw hK
    obtain ⟨⟨old, he⟩, hit, hne, hai⟩ := st
    obtain ⟨xs, hq, hx⟩ := hg
    obtain ⟨its, rv, p, hz⟩ := I.tuple hq
    have p2 : s.heap.IsTuple a its.toArray := p
    obtain ⟨f0, f1, f2, f3, f4, f5⟩ := hf it (by simp)
    have hl := rv.length
    have hh : X.A.in1.handled = none := I.ok.hd hc
    have hd : Draws X.prog X.w X.A.in1 it [it, a] 0 (fun _ _ => True) (fun _ h => h.IsTupleIter it a i ∧ h.IsTuple a its.toArray) :=
      ⟨fun _ _ st => let ⟨o, ho, _⟩ := st.1; ⟨o, ho⟩, fun _ _ _ st hk => ⟨st.1.at fun o e => hk it (by simp) o e, st.2.at fun o e => hk a (by simp) o e⟩, fun _ _ _ _ hi => absurd hi (Nat.not_lt_zero _), fun s Q E st hE => wpAny_nextOf_tuple_end hh st.1 st.2 (by simp; omega) hE⟩
    exact wpAny_pyNext_enum_endD hd he ⟨hit, p2⟩ fun h' eb => ⟨rfl, I.turned (t' := s.toks) (fun b o hb q => eb b o hb q) f0 f1 f3 f4 f5⟩
  self := fun A i s Q E st h => let ⟨⟨_, he⟩, _⟩ := st; wpAny_pyIter_enum he h
theorem pi_enumU {X : Cx} {e : Expr} {te : TE} {p pos tpos : Pos} {elts : List Expr} {kk : Nat} (hg : Gl X "enumerate") (hm : X.mg "enumerate" = none) (he : PE X e te) (hs : starEach [e] X.env = [(false, eval e X.env)] := by rfl) :
    PI X (.Tuple elts kk tpos) (.Call (.Name "enumerate" p) [e] [] pos) (fun σ H R => te σ H fun v H1 => ∃ a xs, v = .ref a ∧ ((SqL X.K H1 a xs ∧ R (Iel X.K a) H1) ∨ (SqT X.K H1 a xs ∧ R (Iet X.K a) H1))) := by
  refine ⟨fun pins s σ H R I h => ?_⟩
  refine Call_ (ld_blt I hg hm boot_enumerate (PyProof.Rows.callWith_type1 (thn ((pa_cons he pa_nil hs).run pos pins s σ H (fun vs H1 => match vs with | [v] => ∃ a xs, v = .ref a ∧ ((SqL X.K H1 a xs ∧ R (Iel X.K a) H1) ∨ (SqT X.K H1 a xs ∧ R (Iet X.K a) H1)) | _ => False) I h) fun us s1 ⟨vs, H1, I1, r1, q1⟩ => ?_) hs rfl))
  obtain ⟨v, e0, a, xs, ex, q⟩ : ∃ v, vs = [v] ∧ ∃ a xs, v = .ref a ∧ ((SqL X.K H1 a xs ∧ R (Iel X.K a) H1) ∨ (SqT X.K H1 a xs ∧ R (Iet X.K a) H1)) := by
    match vs, q1 with
    | [v], q1 => exact ⟨v, rfl, q1⟩
  subst e0 ex
  cases r1 with
  | cons r rr =>
    cases rr
    cases r
    have fp2 : ∀ b ∈ [s1.heap.objs.size + 1, s1.heap.objs.size], FpOk X pins H1 b := fun b hb => by
      have hle : s1.heap.objs.size ≤ b := by
        rcases (show b = s1.heap.objs.size + 1 ∨ b = s1.heap.objs.size by simpa using hb) with z | z <;> omega
      exact I1.fpOk hle (I1.hok.fresh hle)
    rcases q with ⟨hq, q⟩ | ⟨hq, q⟩
    · obtain ⟨its, rv, p', hz⟩ := I1.list hq
      refine call_enumerate_list p'.isList fun h' he hit hsz hk => wpAny_pyIter_enum he ?_
      exact ⟨s1.heap.objs.size + 1, [s1.heap.objs.size + 1, s1.heap.objs.size], _, _, H1, rfl, I1.kept (t' := s1.toks) hk, turn_enumL a (s1.heap.objs.size + 1) s1.heap.objs.size, ⟨⟨.none, he⟩, hit, Nat.succ_ne_self _⟩, fp2, q⟩
    · obtain ⟨its, rv, p', hz⟩ := I1.tuple hq
      have p2 : s1.heap.IsTuple a its.toArray := p'
      have hla : a < s1.heap.objs.size := by obtain ⟨_, q, _⟩ := p2; exact Heap.lt_size q
      refine call_enumB (begins_tuple a its.toArray) p2 fun h' he hit hk => wpAny_pyIter_enum he ?_
      exact ⟨s1.heap.objs.size + 1, [s1.heap.objs.size + 1, s1.heap.objs.size], _, _, H1, rfl, I1.kept (t' := s1.toks) hk, turn_enumT a (s1.heap.objs.size + 1) s1.heap.objs.size, ⟨⟨.none, he⟩, ⟨_, hit, rfl, rfl⟩, Nat.succ_ne_self _, Nat.ne_of_lt hla⟩, fp2, q⟩
section
variable {G : PenK} {X : Cx} {Wx : WX}
def enumFrom (i : Nat) : List D → List D
  | [] => []
  | x :: xs => .tup [.int i, x] :: enumFrom (i + 1) xs
theorem enumFrom_len : ∀ (i : Nat) (xs : List D), (enumFrom i xs).length = xs.length
  | _, [] => rfl
  | i, x :: xs => by show _ + 1 = _ + 1; rw [enumFrom_len]
theorem enumFrom_get : ∀ (j i : Nat) (xs : List D), (enumFrom j xs)[i]? = (xs[i]?).map fun x => .tup [.int ((j + i : Nat) : Int), x]
  | _, _, [] => rfl
  | j, 0, x :: xs => rfl
  | j, i + 1, x :: xs => by
    show (enumFrom (j + 1) xs)[i]? = (xs[i]?).map _
    rw [enumFrom_get, show j + 1 + i = j + (i + 1) by omega]
def enumD : D → W (List D)
  | .lst xs => ret (enumFrom 0 xs)
  | .tup xs => ret (enumFrom 0 xs)
  | _ => stuck
theorem walks_enumL {K : PySem.W.Frag} {S : Addr → Prop} {H : Hp} {a : Addr} {xs : List D} {vs : List V} (h : RdL S H a vs) (r : Reps K S H xs vs) : Walks G K (Iel K a) S H (enumFrom 0 xs) := fun c ρ σ H2 n i g I => by
  have h2 := h.grow g
  have r2 := Reps.grow g _ _ r
  rw [enumFrom_len]
  refine ⟨fun hi => ?_, fun hi => ⟨vs, h2.sq, by rw [r2.len]; exact hi⟩⟩
  have hx : xs[i]? = some xs[i] := List.getElem?_eq_getElem hi
  obtain ⟨v, e1, e2⟩ := Reps.at r2 hx
  refine ⟨⟨vs, v, h2.sq, e1⟩, fun u H' ⟨T, x, o, eu, hT, od, eH, y⟩ => ?_⟩
  have ex := y vs h2.sq
  rw [e1] at ex
  cases ex
  subst eu eH
  obtain ⟨IS, gS⟩ := I.laid (o := .frz o (.tup [.int (i : Nat), v])) hT
  exact ⟨_, .tup [.int (i : Nat), xs[i]], gS, IS, by rw [enumFrom_get, hx]; simp, T, [.int (i : Nat), v], rfl,   .inl ⟨.inr rfl, o, upd_same, od⟩, (by show 2 ≤ sizeLine; decide), _, _, rfl, rfl, _, _, rfl, Rep.grow gS _ _ e2, rfl⟩
theorem walks_enumT {K : PySem.W.Frag} {S : Addr → Prop} {H : Hp} {a : Addr} {xs : List D} {vs : List V} (h : RdT K S H a vs) (r : Reps K S H xs vs) : Walks G K (Iet K a) S H (enumFrom 0 xs) := fun c ρ σ H2 n i g I => by
  have h2 := h.grow g
  have r2 := Reps.grow g _ _ r
  rw [enumFrom_len]
  refine ⟨fun hi => ?_, fun hi => ⟨vs, h2.sq, by rw [r2.len]; exact hi⟩⟩
  have hx : xs[i]? = some xs[i] := List.getElem?_eq_getElem hi
  obtain ⟨v, e1, e2⟩ := Reps.at r2 hx
  refine ⟨⟨vs, v, h2.sq, e1⟩, fun u H' ⟨T, x, o, eu, hT, od, eH, y⟩ => ?_⟩
  have ex := y vs h2.sq
  rw [e1] at ex
  cases ex
  subst eu eH
  obtain ⟨IS, gS⟩ := I.laid (o := .frz o (.tup [.int (i : Nat), v])) hT
  exact ⟨_, .tup [.int (i : Nat), xs[i]], gS, IS, by rw [enumFrom_get, hx]; simp, T, [.int (i : Nat), v], rfl,   .inl ⟨.inr rfl, o, upd_same, od⟩, (by show 2 ≤ sizeLine; decide), _, _, rfl, rfl, _, _, rfl, Rep.grow gS _ _ e2, rfl⟩
theorem w_enum {elts : List Expr} {kk : Nat} {tpos p pos : Pos} {e : Expr} {g : Env → W D} (hm : X.mg "enumerate" = none) (h : E G X Wx e g) (hg : Gl X "enumerate" := by rfl) (hs : starEach [e] X.env = [(false, eval e X.env)] := by rfl) :
    Wk G X Wx (.Tuple elts kk tpos) (.Call (.Name "enumerate" p) [e] [] pos) (fun ρ => bnd (g ρ) enumD) :=
  weakI (pi_enumU hg hm h hs) fun σ H R ⟨c, ρ, n, P, PX, I, q, hg, hx⟩ => tE.bnd I q hx fun d k v S' H' p g I' hx' r => by
    cases d with
    | lst xs =>
      obtain ⟨a, vs, rfl, r1, z, q1⟩ := r
      exact ⟨a, vs, rfl, .inl ⟨r1.sq, hg _ k S' H' _ p g I' (walks_enumL r1 q1)⟩⟩
    | tup xs =>
      obtain ⟨a, vs, rfl, r1, z, q1⟩ := r
      exact ⟨a, vs, rfl, .inr ⟨r1.sq, hg _ k S' H' _ p g I' (walks_enumT r1 q1)⟩⟩
    | _ => exact p.elim
end
end PL

/-! What a mirror does, in plain words: Gen m c Q says that m ends with a value under Q, after at most c draws. -/
namespace PL
open PySem PySem.Spec L2
section
variable {α β : Type}
theorem bnd_ret (a : α) (f : α → W β) : bnd (ret a) f = f a := rfl
theorem bnd_bnd {γ : Type} (m : W α) (f : α → W β) (g : β → W γ) : bnd (bnd m f) g = bnd m fun a => bnd (f a) g := rfl
theorem grd_pos {p : Prop} (h : p) (m : W α) : grd p m = m := by
  funext n P X
  exact propext ⟨fun q => q.2, fun q => ⟨h, q⟩⟩
theorem few_pos {xs : List D} (h : xs.length ≤ sizeLine) (m : W α) : few xs m = m := grd_pos h m
def Gen (m : W α) (c : Nat) (Q : α → Prop) : Prop := ∀ (n : Nt) (P : α → Nt → Prop) (PX : Exc → Nt → Prop), n.n + c ≤ drawMax → (∀ a k, Q a → n.n ≤ k → k ≤ n.n + c → P a ⟨k, n.μ⟩) → m n P PX
theorem Gen.ret {a : α} {Q : α → Prop} (h : Q a) : Gen (PL.ret a) 0 Q := fun n P PX _ k => k a n.n h (Nat.le_refl _) (Nat.le_refl _)
theorem Gen.bnd {m : W α} {f : α → W β} {c d : Nat} {Q : α → Prop} {R : β → Prop} (h : Gen m c Q) (hf : ∀ a, Q a → Gen (f a) d R) : Gen (PL.bnd m f) (c + d) R := fun n P PX hn k =>
  h n _ PX (by omega) fun a j q h1 h2 => hf a q ⟨j, n.μ⟩ P PX (by show j + d ≤ _; omega) fun b i r h3 h4 => k b i r (Nat.le_trans h1 h3) (by have h4 : i ≤ j + d := h4; omega)
theorem Gen.le {m : W α} {c d : Nat} {Q R : α → Prop} (h : Gen m c Q) (hc : c ≤ d) (hq : ∀ a, Q a → R a) : Gen m d R := fun n P PX hn k => h n P PX (by omega) fun a j q h1 h2 => k a j (hq a q) h1 (by omega)
theorem Gen.to {m : W α} {c : Nat} {Q R : α → Prop} (h : Gen m c Q) (hq : ∀ a, Q a → R a) : Gen m c R := h.le (Nat.le_refl _) hq
theorem Gen.up {m : W α} {c d : Nat} {Q : α → Prop} (h : Gen m c Q) (hc : c ≤ d) : Gen m d Q := h.le hc fun _ q => q
theorem Gen.grd {p : Prop} {m : W α} {c : Nat} {Q : α → Prop} (hp : p) (h : Gen m c Q) : Gen (PL.grd p m) c Q := by rw [grd_pos hp]; exact h
theorem Gen.few {xs : List D} {m : W α} {c : Nat} {Q : α → Prop} (hp : xs.length ≤ sizeLine) (h : Gen m c Q) : Gen (PL.few xs m) c Q := Gen.grd hp h
theorem Gen.quiet {m : W α} {c : Nat} {Q : α → Prop} (h : Gen m c Q) : Gen (PL.quiet m) c Q := fun n P PX hn k => h n P _ hn k
/-- a value, no draws -/
def Is (m : W α) (a : α) : Prop := Gen m 0 (· = a)
theorem Is.ret (a : α) : Is (PL.ret a) a := Gen.ret rfl
theorem Is.of {m : W α} {a : α} (h : m = PL.ret a) : Is m a := by rw [h]; exact Is.ret a
theorem Is.bnd {m : W α} {f : α → W β} {a : α} {c : Nat} {R : β → Prop} (h : Is m a) (hf : Gen (f a) c R) : Gen (PL.bnd m f) c R := (Gen.bnd h fun b e => by rw [e]; exact hf).up (by omega)
theorem Gen.draw {b : Int} (h0 : 0 < b) (h1 : b < 1073741824) : Gen (drawB b) 1 fun d => ∃ r : Nat, d = .int r ∧ (r : Int) < b := fun n P PX hn k =>
  ⟨by omega, h0, h1, fun r j q1 q2 q3 q4 => k _ j ⟨r.toNat, by rw [Int.toNat_of_nonneg q1], by omega⟩ q3 q4⟩
theorem Gen.drawM {b : Int} (h0 : 0 < b) (h1 : b < 1073741824) : Gen (PL.drawM [.pen, .d (.int b)]) 1 fun d => ∃ r : Nat, d = .int r ∧ (r : Int) < b := Gen.draw h0 h1
end
theorem Gen.call {m : List SV → W D} {args : List SV} {c : Nat} {Q : D → Prop} (h : Gen (m args) c Q) (hc : c ≤ drawMax := by decide) : Gen (callM m args) c Q := fun n P PX hn k => by
  unfold callM
  split
  · exact h n P PX hn k
  · exact h ⟨0, n.μ⟩ _ _ (by show 0 + c ≤ _; omega) fun a j q _ _ => k a n.n q (Nat.le_refl _) (Nat.le_add_right _ _)
/-! ### rows for simp -/
theorem tru_bl (b : Bool) : tru (.bl b) = PL.ret b := rfl
theorem blB_bl (b : Bool) : blB (.bl b) = PL.ret b := rfl
theorem leD_int (i j : Int) : leD (.int i) (.int j) = PL.ret (.bl (decide (i ≤ j))) := rfl
theorem items_lst (xs : List D) : items (.lst xs) = PL.ret xs := rfl
theorem items_tup (xs : List D) : items (.tup xs) = PL.ret xs := rfl
theorem eqD_int (i j : Int) : eqD (.int i) (.int j) = PL.ret (.bl (decide (i = j))) := by
  unfold eqD
  rw [grd_pos (.inl ⟨rfl, rfl⟩)]
  simp only [py, PyData.eqv]
  rfl
theorem ix_l {xs : List D} {i : Int} {x : D} (h : atI xs i = some x) : ixD (.lst xs) (.int i) = PL.ret x := by
  show (match atI xs i with | some x => PL.ret x | none => stuck : W D) = _
  rw [h]
theorem ix_t {xs : List D} {i : Int} {x : D} (h : atI xs i = some x) : ixD (.tup xs) (.int i) = PL.ret x := by
  show (match atI xs i with | some x => PL.ret x | none => stuck : W D) = _
  rw [h]
theorem ix_s {s : Str} {i : Int} {k : Nat} (h : atI s.cps.toList i = some k) : ixD (.str s) (.int i) = PL.ret (.str ⟨#[k]⟩) := by
  show (match atI s.cps.toList i with | some k => PL.ret (.str ⟨#[k]⟩) | none => stuck : W D) = _
  rw [h]
theorem ix0 (x : D) (xs : List D) : ixD (.tup (x :: xs)) (.int 0) = PL.ret x := ix_t (atI_nat (j := 0) rfl)
theorem ix1 (a x : D) (xs : List D) : ixD (.tup (a :: x :: xs)) (.int 1) = PL.ret x := ix_t (atI_nat (j := 1) rfl)
theorem ix2 (a b x : D) (xs : List D) : ixD (.tup (a :: b :: x :: xs)) (.int 2) = PL.ret x := ix_t (atI_nat (j := 2) rfl)
theorem ix_atT {xs : List D} {i : Nat} (h : i < xs.length) : ixD (.tup xs) (.int i) = PL.ret xs[i] := ix_t (atI_nat (List.getElem?_eq_getElem h))
/-- what may be shown, built from short parts -/
inductive Ok : D → Prop
  | non : Ok .non
  | bl (b : Bool) : Ok (.bl b)
  | int {i : Int} (h : i.natAbs < 10 ^ 61) : Ok (.int i)
  | str {s : Str} (h : okD (.str s) = true) : Ok (.str s)
  | lst {xs : List D} (h : ∀ x ∈ xs, Ok x) : Ok (.lst xs)
  | tup {xs : List D} (h : ∀ x ∈ xs, Ok x) : Ok (.tup xs)
  | dic0 : Ok (.dic [])
  | dic1 {s : Str} {i : Int} (h : okD (.str s) = true) (h2 : i.natAbs < 10 ^ 61) : Ok (.dic [(.inr s, .int i)])
theorem str_short {s : Str} (h : okD (.str s) = true) (B : Nat) : (py (.str s)).leavesShort B = true := by
  simp only [okD, SeqAt.shaped, py, PyData.canLay0, PyData.strOk, Bool.and_eq_true] at h
  simp only [py, PyData.leavesShort, List.all_eq_true, decide_eq_true_eq]
  have q := h.1
  rw [← Array.all_toList, List.all_eq_true] at q
  intro c hc
  have := of_decide_eq_true (q c hc)
  have e : (16 : Nat) ^ 8 = 4294967296 := by decide
  omega
theorem int_short {i : Int} (h : i.natAbs < 10 ^ 61) : (py (.int i)).leavesShort 62 = true := by
  simp only [py, PyData.leavesShort, PyData.shown]
  apply decide_eq_true
  rw [ofString_length]
  exact int_text_length_le10 (by decide) h
theorem int_showable {i : Int} (h : i.natAbs < 10 ^ 61) : (py (.int i)).showable = true := by
  simp only [py, PyData.showable, decide_eq_true_eq]
  refine Nat.lt_of_le_of_lt (?_ : i.natAbs.log2 ≤ 300) (by decide)
  by_cases hz : i.natAbs = 0
  · rw [hz]; decide
  · exact Nat.le_of_lt_succ ((Nat.log2_lt hz).mpr (Nat.lt_trans h (by decide +kernel)))
theorem pys_short : ∀ {xs : List D}, (∀ x ∈ xs, (py x).leavesShort 62 = true ∧ (py x).showable = true) → PyData.leavesShortAll 62 (pys xs) = true ∧ PyData.showableAll (pys xs) = true
  | [], _ => ⟨by simp [pys, PyData.leavesShortAll], by simp [pys, PyData.showableAll]⟩
  | x :: xs, h => by
    have ih := pys_short (xs := xs) fun y hy => h y (List.mem_cons_of_mem _ hy)
    have q := h x List.mem_cons_self
    exact ⟨by simp [pys, PyData.leavesShortAll, q.1, ih.1], by simp [pys, PyData.showableAll, q.2, ih.2]⟩
theorem Ok.short : ∀ {x : D}, Ok x → (py x).leavesShort 62 = true ∧ (py x).showable = true := by
  intro x h
  induction h with
  | non => exact ⟨by simp [py, PyData.leavesShort], by simp [py, PyData.showable]⟩
  | bl b => exact ⟨by simp [py, PyData.leavesShort], by simp [py, PyData.showable]⟩
  | int h => exact ⟨int_short h, int_showable h⟩
  | str h => exact ⟨str_short h _, by simp [py, PyData.showable]⟩
  | lst _ ih => exact ⟨by simp [py, PyData.leavesShort, (pys_short ih).1], by simp [py, PyData.showable, (pys_short ih).2]⟩
  | tup _ ih => exact ⟨by simp [py, PyData.leavesShort, (pys_short ih).1], by simp [py, PyData.showable, (pys_short ih).2]⟩
  | dic0 => exact ⟨by simp [py, pyk, PyData.leavesShort, PyData.leavesShortKv], by simp [py, pyk, PyData.showable, PyData.showableKv]⟩
  | dic1 h h2 =>
    have a := str_short h 62
    have b := int_short h2
    have c := int_showable h2
    refine ⟨?_, ?_⟩
    · show (PyData.leavesShort 62 (py (.str _)) && PyData.leavesShort 62 (py (.int _)) && true) = true
      rw [a, b]
      rfl
    · show (true && PyData.showable (py (.int _)) && true) = true
      rw [c]
      rfl
theorem Gen.take {b : Int} (h0 : 0 < b := by decide) (h1 : b < 1073741824 := by decide) : Gen (callM PL.drawM [.pen, .d (.int b)]) 1 fun d => ∃ r : Nat, d = .int r ∧ (r : Int) < b := Gen.call (Gen.drawM h0 h1)
theorem fewS {α : Type} {xs : List D} (h : xs.length ≤ 1000) (m : W α) : few xs m = m := few_pos (by rw [sizeLine_eq]; omega) m
theorem Gen.tk {β : Type} {b : Int} {f : D → W β} {C : Nat} {Q : β → Prop} (c : Nat) (k : ∀ r : Nat, (r : Int) < b → Gen (f (.int r)) c Q) (hc : c + 1 ≤ C := by decide) (h0 : 0 < b := by decide) (h1 : b < 1073741824 := by decide) : Gen (PL.bnd (callM PL.drawM [.pen, .d (.int b)]) f) C Q :=
  (Gen.bnd (Gen.take h0 h1) fun d ⟨r, e, hr⟩ => by rw [e]; exact k r hr).up (by omega)
theorem Gen.ty {α β : Type} {m : W α} {f : α → W β} {C : Nat} {R : α → Prop} {Q : β → Prop} (c d : Nat) (h : Gen m c R) (k : ∀ a, R a → Gen (f a) d Q) (hc : c + d ≤ C := by decide) : Gen (PL.bnd m f) C Q := (Gen.bnd h k).up hc
theorem joinL_nil : ∀ ks : List Nat, TL.joinL [] (ks.map fun k => [k]) = ks
  | [] => rfl
  | [_] => rfl
  | k :: j :: r => by
    show [k] ++ ([] ++ TL.joinL [] ((j :: r).map fun k => [k])) = _
    rw [joinL_nil (j :: r)]
    rfl
theorem join_signs (ks : List Nat) : Txt.join (Str.ofString "") (ks.map fun k => (⟨#[k]⟩ : Str)) = ⟨ks.toArray⟩ := by
  have e : TL.tl (Txt.join (Str.ofString "") (ks.map fun k => (⟨#[k]⟩ : Str))) = ks := by
    rw [TL.join_eq, TL.tl_join, List.map_map]
    exact joinL_nil ks
  have e2 : ∀ x : Str, x = ⟨(TL.tl x).toArray⟩ := fun x => by cases x; rfl
  rw [e2 (Txt.join _ _), e]
theorem txts_signs : ∀ ks : List Nat, txts (ks.map fun k => D.str ⟨#[k]⟩) = some (ks.map fun k => ⟨#[k]⟩)
  | [] => rfl
  | k :: ks => by
    show (txts (ks.map _)).map _ = _
    rw [txts_signs ks]
    rfl
theorem sum_ones : ∀ ks : List Nat, ((ks.map fun k => (⟨#[k]⟩ : Str)).map (·.length)).sum = ks.length
  | [] => rfl
  | k :: ks => by
    rw [List.map_cons, List.map_cons, List.sum_cons, sum_ones ks, List.length_cons]
    show 1 + _ = _
    omega
theorem joinD_signs (ks : List Nat) (h : ks.length ≤ 1000) : joinD (.str (Str.ofString "")) (.lst (ks.map fun k => .str ⟨#[k]⟩)) = PL.ret (.str ⟨ks.toArray⟩) := by
  show joinW _ _ = _
  unfold joinW
  rw [txts_signs]
  show grd _ _ = _
  rw [join_signs]
  have e : (Str.mk ks.toArray).length = ks.length := List.size_toArray
  refine grd_pos ⟨?_, by rw [e, sizeLine_eq]; omega⟩ _
  rw [sum_ones, List.length_map, show (Str.ofString "").length = 0 from rfl]
  omega
theorem signs_ok {l : List D} {p : Nat → Prop} : (∀ y ∈ l, ∃ k, y = .str ⟨#[k]⟩ ∧ p k) → ∃ ks : List Nat, l = ks.map (fun k => .str ⟨#[k]⟩) ∧ ks.length = l.length ∧ ∀ k ∈ ks, p k := by
  induction l with
  | nil => exact fun _ => ⟨[], rfl, rfl, fun _ h => nomatch h⟩
  | cons y l ih =>
    intro h
    obtain ⟨k, rfl, hk⟩ := h y List.mem_cons_self
    obtain ⟨ks, rfl, e, hp⟩ := ih fun z hz => h z (List.mem_cons_of_mem _ hz)
    exact ⟨k :: ks, rfl, by simp, fun j hj => by rcases List.mem_cons.mp hj with rfl | hj; exact hk; exact hp j hj⟩
theorem okD_small {s : Str} (h : ∀ k ∈ s.cps.toList, k < 1114112) : okD (.str s) = true := by
  simp only [okD, SeqAt.shaped, py, PyData.canLay0, PyData.strOk, PyData.depth, Bool.and_eq_true]
  refine ⟨?_, by decide⟩
  rw [← Array.all_toList, List.all_eq_true]
  exact fun k hk => decide_eq_true (h k hk)
end PL

/-! Statements over a state whose names are told one by one: a block's mirror speaks of values alone. -/
namespace PL
open PySem PySem.Spec L2 PyProof.Rows

/-- how a block's ends are carried on -/
structure Enz (γ : Type) where
  nx : Env → W γ → Prop
  rt : D → W γ → Prop
  bk : Env → W γ → Prop
  ct : Env → W γ → Prop
inductive Step (J γ : Type) where
  | go (j : J) | bk (j : J) | out (g : γ)
def forK {J γ : Type} (k f : J → W γ) : Step J γ → W γ
  | .go j => f j
  | .bk j => k j
  | .out g => ret g
def forT {α J γ : Type} (bd : α → J → W (Step J γ)) (k : J → W γ) : List α → J → W γ
  | [], j => k j
  | x :: xs, j => bnd (bd x j) (forK k fun j' => forT bd k xs j')
/-- some names forgotten -/
def Le (ρ ρ' : Env) : Prop := ρ'.length = ρ.length ∧ ∀ i : Nat, ρ'[i]? = ρ[i]? ∨ ρ'[i]? = some .un
theorem Le.refl {ρ : Env} : Le ρ ρ := ⟨rfl, fun _ => .inl rfl⟩
theorem Le.nil : Le [] [] := .refl
theorem Le.same {s : SV} {ρ ρ' : Env} (h : Le ρ ρ') : Le (s :: ρ) (s :: ρ') := ⟨by simp [h.1], fun i => match i with
  | 0 => .inl rfl
  | i + 1 => h.2 i⟩
theorem Le.un {s : SV} {ρ ρ' : Env} (h : Le ρ ρ') : Le (s :: ρ) (.un :: ρ') := ⟨by simp [h.1], fun i => match i with
  | 0 => .inr rfl
  | i + 1 => h.2 i⟩

section
variable {G : PenK} {K : PySem.W.Frag} {c : C} {σ : L2.St} {ρ ρ' : Env} {H : Hp} {n : Nt}
theorem SI.le (I : SI G K c σ H ρ n) (h : Le ρ ρ') : SI G K c σ H ρ' n := by
  have key : ∀ (i : Nat) (sv : SV), ρ'[i]? = some sv → sv = .un ∨ ρ[i]? = some sv := fun i sv e => by
    rcases h.2 i with q | q
    · exact .inr (q ▸ e)
    · rw [q] at e; exact .inl (Option.some.inj e).symm
  refine ⟨h.1.trans I.len, fun i sv e => ?_, fun i sv a e ho => ?_, fun i j sv sv' a hn e e' ho ho' => ?_, I.dom, I.fr, I.pen, I.no, I.tab, I.mu, I.mu0, I.mz⟩
  · rcases key i sv e with rfl | q
    · trivial
    · exact I.slots i sv q
  · rcases key i sv e with rfl | q
    · cases ho
    · exact I.own i sv a q ho
  · rcases key i sv e with rfl | q
    · cases ho
    · rcases key j sv' e' with rfl | q'
      · cases ho'
      · exact I.apart i j sv sv' a hn q q' ho ho'
end

section
variable (G : PenK) (X : Cx) (Wx : WX) {γ : Type}
def GlE (En : Enz γ) (c : C) (H : Hp) (P : γ → Nt → Prop) (PX : Exc → Nt → Prop) (Dn : Ends) : Prop :=
  (∀ ρ' m k σ' S' H', En.nx ρ' m → m k P PX → Grow c.S S' H H' → SI G X.K (c.to S') σ' H' ρ' k → Dn.nx σ' H') ∧
  (∀ d m k v σ' ρ' S' H', En.rt d m → m k P PX → Grow c.S S' H H' → SI G X.K (c.to S') σ' H' ρ' k → Rep X.K S' H' d v → Dn.rt v H') ∧
  (∀ ρ' m k σ' S' H', En.bk ρ' m → m k P PX → Grow c.S S' H H' → SI G X.K (c.to S') σ' H' ρ' k → Dn.bk σ' H') ∧
  ∀ ρ' m k σ' S' H', En.ct ρ' m → m k P PX → Grow c.S S' H H' → SI G X.K (c.to S') σ' H' ρ' k → Dn.ct σ' H'
def tG (ρ : Env) (En : Enz γ) (m : W γ) : TS := fun Dn σ H => ∃ c n P PX, SI G X.K c σ H ρ n ∧ m n P PX ∧ GlE G X En c H P PX Dn ∧ OKs G X Wx c H PX
def SG (ss : List Stmt) (ρ : Env) (En : Enz γ) (m : W γ) : Prop := PSs X ss (tG G X Wx ρ En m)
end
section
variable {G : PenK} {X : Cx} {Wx : WX} {γ : Type} {En : Enz γ} {ρ ρ' : Env} {rest : List Stmt} {m : W γ}
theorem GlE.grow {c : C} {H H' : Hp} {P : γ → Nt → Prop} {PX : Exc → Nt → Prop} {Dn : Ends} {S' : Addr → Prop} (h : GlE G X En c H P PX Dn) (g : Grow c.S S' H H') : GlE G X En (c.to S') H' P PX Dn :=
  ⟨fun ρ m k σ S2 H2 e p g2 I => h.1 ρ m k σ S2 H2 e p (g.trans g2) I, fun d m k v σ ρ S2 H2 e p g2 I r => h.2.1 d m k v σ ρ S2 H2 e p (g.trans g2) I r,
    fun ρ m k σ S2 H2 e p g2 I => h.2.2.1 ρ m k σ S2 H2 e p (g.trans g2) I, fun ρ m k σ S2 H2 e p g2 I => h.2.2.2 ρ m k σ S2 H2 e p (g.trans g2) I⟩
theorem pss_un {α : Type} {t : α → TS} (h : ∀ a, PSs X rest (t a)) : PSs X rest (fun Dn σ H => ∃ a, t a Dn σ H) := ⟨fun pins s σ H D I ⟨a, q⟩ => (h a).run pins s σ H D I q⟩
theorem pss_no : PSs X rest (fun _ _ _ => False) := ⟨fun _ _ _ _ _ _ q => q.elim⟩
theorem inj_eq {α β : Type} {e : α → β} (inj : ∀ a b, e a = e b → a = b) (k : α → Nt → Prop) : (fun a j => ∃ b, e a = e b ∧ k b j) = k := by
  funext a j
  exact propext ⟨fun ⟨b, h, q⟩ => (inj a b h) ▸ q, fun q => ⟨a, rfl, q⟩⟩
theorem sg_eq {ss : List Stmt} {m m' : W γ} (h : SG G X Wx ss ρ En m) (e : m = m') : SG G X Wx ss ρ En m' := e ▸ h
theorem sg_nil (h : En.nx ρ m) : SG G X Wx [] ρ En m := weakSs pss_nil fun Dn σ H ⟨c, n, P, PX, I, q, hg, hx⟩ => hg.1 ρ m n σ c.S H h q .refl I
/-- a statement behind which one goes on -/
theorem sg_stmt {s : Stmt} {g : Env → W Out} {α : Type} {m0 : W α} {e : α → Env} {k : α → W γ} (h : St1 G X Wx s g) (hg : g ρ = bnd m0 fun a => ret (.nx (e a))) (inj : ∀ a b, e a = e b → a = b) (hr : ∀ a, SG G X Wx rest (e a) En (k a)) :
    SG G X Wx (s :: rest) ρ En (bnd m0 k) :=
  weakSs (pss_cons h (pss_un hr)) fun Dn σ H ⟨c, n, P, PX, I, q, hgl, hx⟩ => by
    refine ⟨c, ρ, n, fun o j => ∃ a, o = .nx (e a) ∧ k a j P PX, PX, I, ?_, ⟨fun ρ' j σ' S' H' ⟨a, ea, p⟩ g I' => ?_, fun d j v σ' ρ' S' H' ⟨a, ea, p⟩ _ _ _ => (nomatch ea), fun ρ' j σ' S' H' ⟨a, ea, p⟩ _ _ => (nomatch ea), fun ρ' j σ' S' H' ⟨a, ea, p⟩ _ _ => (nomatch ea)⟩, hx⟩
    · rw [hg]
      have ee := inj_eq (e := fun a => Out.nx (e a)) (fun a b z => inj a b (Out.nx.inj z)) fun a j => k a j P PX
      show m0 n (fun a j => ∃ b, Out.nx (e a) = Out.nx (e b) ∧ k b j P PX) PX
      rw [ee]
      exact q
    · cases ea
      exact ⟨a, c.to S', j, P, PX, I', p, hgl.grow g, hx.grow g⟩
theorem sg_ret {e : Expr} {pos : Pos} {g : Env → W D} {α : Type} {m0 : W α} {f : α → D} {r : α → W γ} (h : E G X Wx e g) (hg : g (bor ρ) = bnd m0 fun a => ret (f a)) (inj : ∀ a b, f a = f b → a = b) (hr : ∀ a, En.rt (f a) (r a)) :
    SG G X Wx (.Return (some e) pos :: rest) ρ En (bnd m0 r) :=
  weakSs (pss_cons (ps_ret h) pss_no) fun Dn σ H ⟨c, n, P, PX, I, q, hgl, hx⟩ => by
    obtain ⟨I2, g2⟩ := I.lend
    refine ⟨_, bor ρ, n, fun d j => ∃ a, d = f a ∧ r a j P PX, PX, I2, ?_, fun d j v S' H' ⟨a, ea, p⟩ g I' rv => ?_, (hx.grow g2).x⟩
    · rw [hg]
      show m0 n (fun a j => ∃ b, f a = f b ∧ r b j P PX) PX
      rw [inj_eq inj fun a j => r a j P PX]
      exact q
    · subst ea
      exact hgl.2.1 (f a) (r a) j v σ _ S' H' (hr a) p (g2.trans g) I' rv
/-- the ends of a block behind which a rest stands -/
def Enz.push (En : Enz γ) (G : PenK) (X : Cx) (Wx : WX) (rest : List Stmt) : Enz γ := { En with nx := fun ρ m => SG G X Wx rest ρ En m }
theorem sg_push {En : Enz γ} (h : SG G X Wx rest ρ En m) : SG G X Wx [] ρ (En.push G X Wx rest) m := sg_nil h
theorem sg_if {t : Expr} {a b : List Stmt} {pos : Pos} {gt : Env → W Bool} {mt : W Bool} {ma mb : W γ} (ht : T G X Wx t gt) (hg : gt (bor ρ) = mt) (ha : SG G X Wx a ρ (En.push G X Wx rest) ma) (hb : SG G X Wx b ρ (En.push G X Wx rest) mb) :
    SG G X Wx (.If t a b pos :: rest) ρ En (bnd mt fun x => if x = true then ma else mb) :=
  weakSs (pss_cons (ps_if ht ha hb) (pss_un fun z : { z : Env × W γ // SG G X Wx rest z.1 En z.2 } => z.2)) fun Dn σ H ⟨c, n, P, PX, I, q, hgl, hx⟩ => by
    obtain ⟨I2, g2⟩ := I.lend
    subst hg
    refine tT.bnd (f := fun x => if x = true then ma else mb) I2 q (hx.grow g2).x fun b k S' H' p g I' hx' => ?_
    obtain ⟨I3, g3⟩ := I.back g I'
    have hgl3 := hgl.grow g3
    have hx3 := hx.grow g3
    have hE : GlE G X (En.push G X Wx rest) (c.to fun a => S' a ∧ ¬ ownS ρ σ a) H' P PX { Dn with nx := fun σ H => ∃ z : { z : Env × W γ // SG G X Wx rest z.1 En z.2 }, tG G X Wx z.1.1 En z.1.2 Dn σ H } :=
      ⟨fun ρ' m k σ' S' H' e p g I => ⟨⟨(ρ', m), e⟩, _, k, P, PX, I, p, hgl3.grow g, hx3.grow g⟩, hgl3.2.1, hgl3.2.2.1, hgl3.2.2.2⟩
    cases b with
    | true => exact iteT ⟨_, k, P, PX, I3, p, hE, hx3⟩
    | false => exact iteF ⟨_, k, P, PX, I3, p, hE, hx3⟩
theorem sg_ifP {t : Expr} {a b : List Stmt} {pos : Pos} {gt : Env → W Bool} {x : Bool} {ma mb : W γ} (ht : T G X Wx t gt) (hg : gt (bor ρ) = ret x) (ha : SG G X Wx a ρ (En.push G X Wx rest) ma) (hb : SG G X Wx b ρ (En.push G X Wx rest) mb) :
    SG G X Wx (.If t a b pos :: rest) ρ En (if x = true then ma else mb) := sg_if ht hg ha hb
theorem sg_retP {e : Expr} {pos : Pos} {g : Env → W D} {d : D} (h : E G X Wx e g) (hg : g (bor ρ) = ret d) (hr : En.rt d m) : SG G X Wx (.Return (some e) pos :: rest) ρ En m :=
  sg_ret (m0 := ret ()) (f := fun _ => d) (r := fun _ => m) h hg (fun _ _ _ => rfl) fun _ => hr
theorem sg_retD {e : Expr} {pos : Pos} {g : Env → W D} {m0 : W D} {r : D → W γ} (h : E G X Wx e g) (hg : g (bor ρ) = m0) (hr : ∀ d, En.rt d (r d)) : SG G X Wx (.Return (some e) pos :: rest) ρ En (bnd m0 r) :=
  sg_ret (f := fun d => d) h (hg.trans rfl) (fun _ _ h => h) hr
/-- the ends of a loop's body -/
def Enz.loop {J : Type} (En : Enz γ) (emb : J → Env) : Enz (Step J γ) where
  nx := fun ρ m => ∃ j, m = ret (.go j) ∧ Le ρ (emb j)
  ct := fun ρ m => ∃ j, m = ret (.go j) ∧ Le ρ (emb j)
  bk := fun ρ m => ∃ j, m = ret (.bk j) ∧ Le ρ (emb j)
  rt := fun d m => ∃ mg, En.rt d mg ∧ m = bnd mg fun g => ret (.out g)
theorem map_inj {α β : Type} {f : α → β} (inj : ∀ a b, f a = f b → a = b) : ∀ xs ys : List α, xs.map f = ys.map f → xs = ys
  | [], [], _ => rfl
  | [], _ :: _, h => by simp at h
  | _ :: _, [], h => by simp at h
  | x :: xs, y :: ys, h => by
    rw [List.map_cons, List.map_cons] at h
    obtain ⟨h1, h2⟩ := List.cons.inj h
    rw [inj x y h1, map_inj inj xs ys h2]
theorem sg_for {J α β : Type} {tg it : Expr} {body : List Stmt} {pos : Pos} {t : Tg} {gi : Env → W (List D)} {mw : W (List β)} {tt : List β → List D} {f : β → D} {emb : J → Env} {j0 : J} {mu : β → W α} {e : α → J → Env} {bb : α → J → W (Step J γ)} {kk : J → W γ}
    (hp : PassesOwn (model X.prog X.w) X.A X.env X.xe) (hc : X.calm = true) (hi : Wk G X Wx tg it gi) (ht : PTg X tg t) (hgi : gi ρ = bnd mw fun ys => ret (tt ys)) (htt : ∀ ys, tt ys = ys.map f) (hf : ∀ a b, f a = f b → a = b) (hl : Le ρ (emb j0)) (hs : ∀ x j, setT t (f x) (emb j) = bnd (mu x) fun a => ret (e a j)) (inj : ∀ j a b, e a j = e b j → a = b)
    (hb : ∀ a j, SG G X Wx body (e a j) (En.loop emb) (bb a j)) (hr : ∀ j, SG G X Wx rest (emb j) En (kk j)) (hfs : ∀ x, foldedSetIterable it X.env x = pure x := by intro _; rfl) :
    SG G X Wx (.For tg it body [] pos :: rest) ρ En (bnd mw fun ys => forT (fun x j => bnd (mu x) fun a => bb a j) kk ys j0) :=
  weakSs (pss_cons (ps_for hp hc hi ht (pss_un fun z : α × J => hb z.1 z.2) hfs) (pss_un hr)) fun Dn σ H ⟨c, n, P, PX, I, q, hg, hx⟩ => by
    refine ⟨c, ρ, n, fun xs k => ∃ ys, xs = ys.map f ∧ forT (fun x j => bnd (mu x) fun a => bb a j) kk ys j0 k P PX, PX, I, ?_, fun xs k S' H' J0 ⟨ys, exs, p⟩ g I' wk => ?_, hx.x⟩
    · rw [hgi]
      show mw n (fun ys k => ∃ zs, tt ys = zs.map f ∧ forT (fun x j => bnd (mu x) fun a => bb a j) kk zs j0 k P PX) PX
      have ee : (fun ys k => ∃ zs, tt ys = zs.map f ∧ forT (fun x j => bnd (mu x) fun a => bb a j) kk zs j0 k P PX) = fun ys k => forT (fun x j => bnd (mu x) fun a => bb a j) kk ys j0 k P PX := by
        funext ys k
        exact propext ⟨fun ⟨zs, h, q⟩ => (map_inj hf ys zs ((htt ys).symm.trans h)) ▸ q, fun q => ⟨ys, htt ys, q⟩⟩
      rw [ee]
      exact q
    have hlen : xs.length = ys.length := by rw [exs, List.length_map]
    refine ⟨fun i m σ2 H2 => m = xs.length - i ∧ i ≤ xs.length ∧ ∃ S2 j2 k2, Grow S' S2 H' H2 ∧ SI G X.K (c.to S2) σ2 H2 (emb j2) k2 ∧ forT (fun x j => bnd (mu x) fun a => bb a j) kk (ys.drop i) j2 k2 P PX, ⟨_, rfl, Nat.zero_le _, S', j0, k, .refl, I'.le hl, p⟩, ?_⟩
    rintro i m σ2 H2 ⟨rfl, hi, S2, j2, k2, g2, I2, p2⟩
    have gg : Grow c.S S2 H H2 := g.trans g2
    obtain ⟨w1, w2⟩ := wk (c.to S2) (emb j2) σ2 H2 k2 i g2 I2
    by_cases hlt : i < xs.length
    · obtain ⟨go, yl⟩ := w1 hlt
      have hly : i < ys.length := hlen ▸ hlt
      have gb' : ∀ (ρ' : Env) (j' : J) (k' : Nt) (σ' : L2.St) (S'' : Addr → Prop) (H'' : Hp), Le ρ' (emb j') → forT (fun x j => bnd (mu x) fun a => bb a j) kk (ys.drop (i + 1)) j' k' P PX → Grow S2 S'' H2 H'' → SI G X.K (c.to S'') σ' H'' ρ' k' →
          ∃ S3 j3 k3, Grow S' S3 H' H'' ∧ SI G X.K (c.to S3) σ' H'' (emb j3) k3 ∧ forT (fun x j => bnd (mu x) fun a => bb a j) kk (ys.drop (i + 1)) j3 k3 P PX := fun ρ' j' k' σ' S'' H'' le p' g' I'' => ⟨S'', j', k', g2.trans g', I''.le le, p'⟩
      refine .inr ⟨go, fun σ' H'' => ∃ S3 j3 k3, Grow S' S3 H' H'' ∧ SI G X.K (c.to S3) σ' H'' (emb j3) k3 ∧ forT (fun x j => bnd (mu x) fun a => bb a j) kk (ys.drop (i + 1)) j3 k3 P PX, fun σ' H'' q => ⟨xs.length - (i + 1), by omega, rfl, hlt, q⟩, fun v H3 y => ?_⟩
      obtain ⟨S3, x, g3, I3, ex, r⟩ := yl v H3 y
      have ed : ys.drop i = ys[i] :: ys.drop (i + 1) := List.drop_eq_getElem_cons hly
      have ey : x = f ys[i] := by
        rw [exs, List.getElem?_map, List.getElem?_eq_getElem hly] at ex
        exact (Option.some.inj ex).symm
      rw [ed] at p2
      subst ey
      have hx3 := hx.grow (gg.trans g3)
      have hg3 := hg.grow (gg.trans g3)
      let PP : Step J γ → Nt → Prop := fun o k => forK kk (fun j' => forT (fun x j => bnd (mu x) fun a => bb a j) kk (ys.drop (i + 1)) j') o k P PX
      have p3 : mu ys[i] k2 (fun a k => bb a j2 k PP PX) PX := p2
      have p4 : setT t (f ys[i]) (emb j2) k2 (fun ρ' k => ∃ a, ρ' = e a j2 ∧ bb a j2 k PP PX) PX := by
        rw [hs]
        show mu ys[i] k2 (fun a k => ∃ b, e a j2 = e b j2 ∧ bb b j2 k PP PX) PX
        rw [inj_eq (inj j2) fun a k => bb a j2 k PP PX]
        exact p3
      refine gT_ok t I3 r p4 fun ρ' k' σ' ⟨a, ea, p5⟩ I4 _ _ => ?_
      subst ea
      refine ⟨(a, j2), _, k', PP, PX, I4, p5, ⟨?_, ?_, ?_, ?_⟩, hx3⟩
      · rintro ρ5 _ k5 σ5 S5 H5 ⟨j', rfl, le⟩ p6 g5 I5
        exact gb' ρ5 j' k5 σ5 S5 H5 le p6 (g3.trans g5) I5
      · rintro d5 _ k5 v5 σ5 ρ5 S5 H5 ⟨mg, hrt, rfl⟩ p6 g5 I5 r5
        exact hg3.2.1 d5 mg k5 v5 σ5 ρ5 S5 H5 hrt p6 g5 I5 r5
      · rintro ρ5 _ k5 σ5 S5 H5 ⟨j', rfl, le⟩ p6 g5 I5
        exact ⟨j', _, k5, P, PX, I5.le le, p6, hg3.grow g5, hx3.grow g5⟩
      · rintro ρ5 _ k5 σ5 S5 H5 ⟨j', rfl, le⟩ p6 g5 I5
        exact gb' ρ5 j' k5 σ5 S5 H5 le p6 (g3.trans g5) I5
    · have ee : i = ys.length := by omega
      subst ee
      rw [List.drop_length] at p2
      exact .inl ⟨w2 (by omega), j2, _, k2, P, PX, I2, p2, hg.grow gg, hx.grow gg⟩
theorem sg_forI {J β : Type} {tg it : Expr} {body : List Stmt} {pos : Pos} {t : Tg} {gi : Env → W (List D)} {mw : W (List β)} {tt : List β → List D} {f : β → D} {emb : J → Env} {j0 : J} {e : β → J → Env} {bb : β → J → W (Step J γ)} {kk : J → W γ}
    (hp : PassesOwn (model X.prog X.w) X.A X.env X.xe) (hc : X.calm = true) (hi : Wk G X Wx tg it gi) (ht : PTg X tg t) (hgi : gi ρ = bnd mw fun ys => ret (tt ys)) (htt : ∀ ys, tt ys = ys.map f) (hf : ∀ a b, f a = f b → a = b) (hl : Le ρ (emb j0)) (hs : ∀ x j, setT t (f x) (emb j) = ret (e x j)) (inj : ∀ j a b, e a j = e b j → a = b)
    (hb : ∀ a j, SG G X Wx body (e a j) (En.loop emb) (bb a j)) (hr : ∀ j, SG G X Wx rest (emb j) En (kk j)) (hfs : ∀ x, foldedSetIterable it X.env x = pure x := by intro _; rfl) :
    SG G X Wx (.For tg it body [] pos :: rest) ρ En (bnd mw fun ys => forT bb kk ys j0) :=
  sg_for (mu := ret) hp hc hi ht hgi htt hf hl (fun x j => (hs x j).trans rfl) inj hb hr hfs
theorem sg_forIP {J β : Type} {tg it : Expr} {body : List Stmt} {pos : Pos} {t : Tg} {gi : Env → W (List D)} {ys : List β} {tt : List β → List D} {f : β → D} {emb : J → Env} {j0 : J} {e : β → J → Env} {bb : β → J → W (Step J γ)} {kk : J → W γ}
    (hp : PassesOwn (model X.prog X.w) X.A X.env X.xe) (hc : X.calm = true) (hi : Wk G X Wx tg it gi) (ht : PTg X tg t) (hgi : gi ρ = ret (tt ys)) (htt : ∀ ys, tt ys = ys.map f) (hf : ∀ a b, f a = f b → a = b) (hl : Le ρ (emb j0)) (hs : ∀ x j, setT t (f x) (emb j) = ret (e x j)) (inj : ∀ j a b, e a j = e b j → a = b)
    (hb : ∀ a j, SG G X Wx body (e a j) (En.loop emb) (bb a j)) (hr : ∀ j, SG G X Wx rest (emb j) En (kk j)) (hfs : ∀ x, foldedSetIterable it X.env x = pure x := by intro _; rfl) :
    SG G X Wx (.For tg it body [] pos :: rest) ρ En (forT bb kk ys j0) :=
  sg_forI (mw := ret ys) hp hc hi ht (hgi.trans rfl) htt hf hl hs inj hb hr hfs
/-- an if whose ways assign alone -/
def EnJ {J : Type} (emb : J → Env) : Enz J where
  nx := fun ρ m => ∃ j, m = ret j ∧ Le ρ (emb j)
  rt := fun _ _ => False
  bk := fun _ _ => False
  ct := fun _ _ => False
theorem sg_ifA {J : Type} {t : Expr} {a b : List Stmt} {pos : Pos} {gt : Env → W Bool} {mt : W Bool} {emb : J → Env} {ma mb : W J} {k : J → W γ} (ht : T G X Wx t gt) (hg : gt (bor ρ) = mt) (ha : SG G X Wx a ρ (EnJ emb) ma) (hb : SG G X Wx b ρ (EnJ emb) mb) (hr : ∀ j, SG G X Wx rest (emb j) En (k j)) :
    SG G X Wx (.If t a b pos :: rest) ρ En (bnd mt fun x => bnd (if x = true then ma else mb) k) :=
  weakSs (pss_cons (ps_if ht ha hb) (pss_un hr)) fun Dn σ H ⟨c, n, P, PX, I, q, hgl, hx⟩ => by
    obtain ⟨I2, g2⟩ := I.lend
    subst hg
    refine tT.bnd (f := fun x => bnd (if x = true then ma else mb) k) I2 q (hx.grow g2).x fun b k' S' H' p g I' hx' => ?_
    obtain ⟨I3, g3⟩ := I.back g I'
    have hgl3 := hgl.grow g3
    have hx3 := hx.grow g3
    have hE : GlE G X (EnJ emb) (c.to fun a => S' a ∧ ¬ ownS ρ σ a) H' (fun j k' => k j k' P PX) PX { Dn with nx := fun σ H => ∃ j, tG G X Wx (emb j) En (k j) Dn σ H } := by
      refine ⟨?_, fun _ _ _ _ _ _ _ _ z => z.elim, fun _ _ _ _ _ _ z => z.elim, fun _ _ _ _ _ _ z => z.elim⟩
      rintro ρ' _ k5 σ' S' H' ⟨j, rfl, le⟩ p g I
      exact ⟨j, _, k5, P, PX, I.le le, p, hgl3.grow g, hx3.grow g⟩
    cases b with
    | true => exact iteT ⟨_, k', _, PX, I3, p, hE, hx3⟩
    | false => exact iteF ⟨_, k', _, PX, I3, p, hE, hx3⟩
def Enz.join {J : Type} (En : Enz γ) (emb : J → Env) : Enz (Step J γ) where
  nx := fun ρ m => ∃ j, m = ret (.go j) ∧ Le ρ (emb j)
  rt := fun d m => ∃ mg, En.rt d mg ∧ m = bnd mg fun g => ret (.out g)
  bk := fun ρ m => ∃ mg, En.bk ρ mg ∧ m = bnd mg fun g => ret (.out g)
  ct := fun ρ m => ∃ mg, En.ct ρ mg ∧ m = bnd mg fun g => ret (.out g)
end

/-! ### defs -/
/-- a def's own ends -/
def EnT : Enz D := ⟨fun _ m => m = ret .non, fun d m => m = ret d, fun _ _ => False, fun _ _ => False⟩
theorem sg_retT {G : PenK} {X : Cx} {Wx : WX} {ρ : Env} {En : Enz D} {rest : List Stmt} {e : Expr} {pos : Pos} {g : Env → W D} {m : W D} (h : E G X Wx e g) (hg : g (bor ρ) = m) (hr : ∀ d, En.rt d (ret d)) : SG G X Wx (.Return (some e) pos :: rest) ρ En m :=
  sg_retD (r := ret) h hg hr
section
variable {G : PenK} {P : Program} {w : World} {K : PySem.W.Frag} {mg : Str → Option Value} {base : Heap}
/-- THE RULE for a def: its body told by values -/
theorem fn_okGC {k : Nat} {f : Addr} {fd : FuncData} {x qual : Str} {st : Stmt} {N ps : List Str} {m : List SV → W D} {Sh : List SV → Prop} (F : Fun K x qual st f fd) (S : FnScope N ps (defScope st)) (hn : ps.length ≤ N.length) (hm : ∀ args n P PX, m args n P PX → Sh args)
    (body : ∀ args, Sh args → ∀ (cdv : Value) (A : Around) (outer : List PySem.Env) (s : Shared) (H : Hp) (E : XK) (Wx : WX), fd.code = cdv → A.guards = some [] → Room k (A.deeper (envOfC qual (defScope st) s.heap.objs.size f cdv)) → Takes (cxOf (L2.CX P w) P w K mg base N qual (defScope st) f cdv A outer s H E) Wx →
      PassesOwn (model P w) (A.deeper (envOfC qual (defScope st) s.heap.objs.size f cdv)) (envOfC qual (defScope st) s.heap.objs.size f cdv) (cxOf (L2.CX P w) P w K mg base N qual (defScope st) f cdv A outer s H E).xe → SG G (cxOf (L2.CX P w) P w K mg base N qual (defScope st) f cdv A outer s H E) Wx (defBody st) (args ++ List.replicate (N.length - args.length) .un) EnT (m args)) :
    FnG P w K mg base (k + 1) f fd ps (spM G K mg ps.length m) := by
  refine FnG.of_bodyC F S (fun vs H Q E ⟨S, pen, args, n, P, PX, hl, _, _, _, _, r, _⟩ => r.len.trans hl) fun cdv A outer s H vs Q E hcc hg hr ⟨S0, pen, args, n, P0, PX, hl, dom, hp, ht, hmu, r, q, hq, hx⟩ => ?_
  refine ⟨_, body args (hm args n P0 PX q) cdv A outer s H E (fun cls d _ H => E cls d H) hcc hg hr (L2.takes_of rfl rfl rfl rfl) (passes_of rfl), ?_⟩
  refine ⟨⟨S0, H, pen, fun a => H a ≠ none ∧ ¬ S0 a, fun a => n.μ a ≠ none⟩, n, P0, PX, SI.entry (by omega) dom hp ht hmu r, q, ⟨?_, ?_, fun _ _ _ _ _ _ z => z.elim, fun _ _ _ _ _ _ z => z.elim⟩, fun x k σ' ρ' S' H' cls dd p g I r => hx x k S' H' cls dd p (SI.after g I) r⟩
  · rintro ρ' _ k σ' S' H' rfl p g I
    exact hq .non k .non S' H' p (SI.after g I) rfl
  · rintro d _ k v σ' ρ' S' H' rfl p g I r
    exact hq d k v S' H' p (SI.after g I) r
/-- .. whose code is not asked for -/
theorem fn_okG {k : Nat} {f : Addr} {fd : FuncData} {x qual : Str} {st : Stmt} {N ps : List Str} {m : List SV → W D} {Sh : List SV → Prop} (F : Fun K x qual st f fd) (S : FnScope N ps (defScope st)) (hn : ps.length ≤ N.length) (hm : ∀ args n P PX, m args n P PX → Sh args)
    (body : ∀ args, Sh args → ∀ (cdv : Value) (A : Around) (outer : List PySem.Env) (s : Shared) (H : Hp) (E : XK) (Wx : WX), A.guards = some [] → Room k (A.deeper (envOfC qual (defScope st) s.heap.objs.size f cdv)) → Takes (cxOf (L2.CX P w) P w K mg base N qual (defScope st) f cdv A outer s H E) Wx →
      PassesOwn (model P w) (A.deeper (envOfC qual (defScope st) s.heap.objs.size f cdv)) (envOfC qual (defScope st) s.heap.objs.size f cdv) (cxOf (L2.CX P w) P w K mg base N qual (defScope st) f cdv A outer s H E).xe → SG G (cxOf (L2.CX P w) P w K mg base N qual (defScope st) f cdv A outer s H E) Wx (defBody st) (args ++ List.replicate (N.length - args.length) .un) EnT (m args)) :
    FnG P w K mg base (k + 1) f fd ps (spM G K mg ps.length m) :=
  fn_okGC F S hn hm fun args hs cdv A outer s H E Wx _ => body args hs cdv A outer s H E Wx
end
end PL

/-! Expressions whose mirrors reduce by themselves; statements by values. -/
namespace PL
open PySem PySem.Spec L2 PyProof.Rows

section
variable {α β : Type}
/-- a test of two parts -/
def andB (m k : W Bool) : W Bool := bnd m fun x => if x = true then k else ret false
def orB (m k : W Bool) : W Bool := bnd m fun x => if x = true then ret true else k
def andD (m k : W D) : W D := bnd m fun x => bnd (tru x) fun b => if b = true then k else ret x
theorem andB_ret (a b : Bool) : andB (ret a) (ret b) = ret (a && b) := by cases a <;> rfl
theorem orB_ret (a b : Bool) : orB (ret a) (ret b) = ret (a || b) := by cases a <;> rfl
theorem andD_t (k : W D) : andD (ret (.bl true)) k = k := rfl
theorem andD_f (k : W D) : andD (ret (.bl false)) k = ret (.bl false) := rfl
theorem thenB_bl (a b : Bool) : thenB (ret (.bl a)) (ret (.bl b)) = ret (.bl (a && b)) := by cases a <;> rfl

def intI : D → W Int
  | .int i => ret i
  | _ => stuck
def lenI : D → W Int
  | .lst xs => ret xs.length
  | .tup xs => ret xs.length
  | .str x => ret x.length
  | .dic kvs => ret kvs.length
  | _ => stuck
def mulI (i j : Int) : W Int := grd (CMul i j) (ret (i * j))
def modI (i j : Int) : W Int := grd (0 < j) (ret (i % j))
def addL (a b : List D) : W (List D) := grd (a.length + b.length ≤ sizeLine) (ret (a ++ b))
def eqB (a b : D) : W Bool := grd (eqQ a b) (ret (PyData.eqv (py a) (py b)))
def neB (a b : D) : W Bool := grd (eqQ a b) (ret (!PyData.eqv (py a) (py b)))
/-- a draw below b -/
def drw (b : Int) : W Int := fun n P _ => n.n < drawMax ∧ 0 < b ∧ b < 1073741824 ∧ ∀ r k, 0 ≤ r → r < b → n.n ≤ k → k ≤ n.n + 1 → P r ⟨k, n.μ⟩
/-- a call without the source of draws -/
def cl (m : W D) : W D := fun n P PX => m ⟨0, n.μ⟩ (fun d k => P d ⟨n.n, k.μ⟩) fun x k => PX x ⟨n.n, k.μ⟩
theorem cl_ret (d : D) : cl (ret d) = ret d := rfl
theorem cl_eq {m : W D} {d : D} (h : m = ret d) : cl m = ret d := by rw [h]; rfl
def unp2 : D → W (D × D)
  | .tup [a, b] => ret (a, b)
  | .lst [a, b] => ret (a, b)
  | _ => stuck
def unp3 : D → W (D × D × D)
  | .tup [a, b, c] => ret (a, b, c)
  | .lst [a, b, c] => ret (a, b, c)
  | _ => stuck
theorem setT_tp2 (i j : Nat) (x : D) (ρ : Env) : setT (.tp [.nm i, .nm j]) x ρ = bnd (unp2 x) fun p => ret ((ρ.set i (.d p.1)).set j (.d p.2)) := by
  cases x with
  | tup xs =>
    match xs with
    | [] => funext n P X; exact propext ⟨fun h => (by have q := h.1; simp at q), fun h => False.elim h⟩
    | [a] => funext n P X; exact propext ⟨fun h => (by have q := h.1; simp at q), fun h => False.elim h⟩
    | [a, b] => exact grd_pos rfl _
    | a :: b :: c :: l => funext n P X; exact propext ⟨fun h => (by have q := h.1; simp at q), fun h => False.elim h⟩
  | lst xs =>
    match xs with
    | [] => funext n P X; exact propext ⟨fun h => (by have q := h.1; simp at q), fun h => False.elim h⟩
    | [a] => funext n P X; exact propext ⟨fun h => (by have q := h.1; simp at q), fun h => False.elim h⟩
    | [a, b] => exact grd_pos rfl _
    | a :: b :: c :: l => funext n P X; exact propext ⟨fun h => (by have q := h.1; simp at q), fun h => False.elim h⟩
  | _ => rfl
theorem setT_tp3 (i j l : Nat) (x : D) (ρ : Env) : setT (.tp [.nm i, .nm j, .nm l]) x ρ = bnd (unp3 x) fun p => ret (((ρ.set i (.d p.1)).set j (.d p.2.1)).set l (.d p.2.2)) := by
  cases x with
  | tup xs =>
    match xs with
    | [] => funext n P X; exact propext ⟨fun h => (by have q := h.1; simp at q), fun h => False.elim h⟩
    | [a] => funext n P X; exact propext ⟨fun h => (by have q := h.1; simp at q), fun h => False.elim h⟩
    | [a, b] => funext n P X; exact propext ⟨fun h => (by have q := h.1; simp at q), fun h => False.elim h⟩
    | [a, b, c] => exact grd_pos rfl _
    | a :: b :: c :: d :: l => funext n P X; exact propext ⟨fun h => (by have q := h.1; simp at q), fun h => False.elim h⟩
  | lst xs =>
    match xs with
    | [] => funext n P X; exact propext ⟨fun h => (by have q := h.1; simp at q), fun h => False.elim h⟩
    | [a] => funext n P X; exact propext ⟨fun h => (by have q := h.1; simp at q), fun h => False.elim h⟩
    | [a, b] => funext n P X; exact propext ⟨fun h => (by have q := h.1; simp at q), fun h => False.elim h⟩
    | [a, b, c] => exact grd_pos rfl _
    | a :: b :: c :: d :: l => funext n P X; exact propext ⟨fun h => (by have q := h.1; simp at q), fun h => False.elim h⟩
  | _ => rfl
/-- parts in a row -/
def bndL : List (W D) → (List D → W β) → W β
  | [], f => f []
  | m :: ms, f => bnd m fun x => bndL ms fun xs => f (x :: xs)
theorem bndL_bnd : ∀ (ms : List (W D)) (f : List D → W α) (k : α → W β), bnd (bndL ms f) k = bndL ms fun xs => bnd (f xs) k
  | [], _, _ => rfl
  | m :: ms, f, k => by
    show bnd m (fun x => bnd (bndL ms fun xs => f (x :: xs)) k) = bnd m _
    congr 1
    funext x
    exact bndL_bnd ms _ k
theorem bndL_len : ∀ (ms : List (W D)) {f f' : List D → W β}, (∀ xs, xs.length = ms.length → f xs = f' xs) → bndL ms f = bndL ms f'
  | [], _, _, h => h [] rfl
  | m :: ms, f, f', h => by
    show bnd m _ = bnd m _
    congr 1
    funext x
    exact bndL_len ms fun xs e => h (x :: xs) (by simp [e])
/-- a comprehension -/
def optK (k : D → W β) (m : W β) : Option D → W β
  | some y => k y
  | none => m
def compP (f : α → W (Option D)) : List α → W (List D)
  | [] => ret []
  | x :: xs => bnd (f x) (optK (fun y => bnd (compP f xs) fun ys => ret (y :: ys)) (compP f xs))
def fewN (n : Nat) (m : W β) : W β := grd (n ≤ sizeLine) m
/-- [f(x) for x in xs] -/
def mapP (f : α → W D) (xs : List α) : W (List D) := fewN xs.length (quiet (compP (fun x => bnd (f x) fun y => ret (some y)) xs))
/-- [f(x) for x in xs if t(x)] -/
def selP (t : α → W Bool) (f : α → W D) (xs : List α) : W (List D) := fewN xs.length (quiet (compP (fun x => bnd (t x) fun k => if k = true then bnd (f x) fun y => ret (some y) else ret none) xs))
theorem compP_map {γ : Type} (h : γ → α) (f : α → W (Option D)) : ∀ xs : List γ, compP f (xs.map h) = compP (fun x => f (h x)) xs
  | [] => rfl
  | x :: xs => by
    show bnd (f (h x)) _ = bnd (f (h x)) _
    rw [compP_map h f xs]
theorem compW_P {t : Tg} {gt : Env → W Bool} {ge : Env → W D} {ρ : Env} : ∀ xs : List D, compW t gt ge ρ xs = compP (fun x => bnd (setT t x ρ) fun ρ' => bnd (gt ρ') fun k => if k = true then bnd (ge ρ') fun y => ret (some y) else ret none) xs
  | [] => rfl
  | x :: xs => by
    show bnd (setT t x ρ) _ = bnd (bnd (setT t x ρ) _) _
    rw [bnd_bnd]
    congr 1
    funext ρ'
    rw [bnd_bnd]
    congr 1
    funext b
    rw [← compW_P xs]
    cases b <;> rfl
end

section
variable {G : PenK} {X : Cx} {Wx : WX}
theorem E.filt {e : Expr} {g : Env → W D} {h : D → W D} (he : E G X Wx e g) (hh : ∀ x k P PX, h x k P PX → P x k) : E G X Wx e (fun ρ => bnd (g ρ) h) :=
  weakE he fun σ H Q ⟨c, ρ, n, P, PX, I, q, hg, hx⟩ => ⟨c, ρ, n, fun x k => h x k P PX, PX, I, q, fun d k v S' H' p g I' r => hg d k v S' H' (hh d k P PX p) g I' r, hx⟩
theorem E.eq {e : Expr} {g g' : Env → W D} (he : E G X Wx e g) (h : g = g') : E G X Wx e g' := h ▸ he
theorem e_asI {e : Expr} {g : Env → W D} (he : E G X Wx e g) : E G X Wx e (fun ρ => bnd (g ρ) fun x => bnd (intI x) fun i => ret (.int i)) :=
  he.filt fun x k P PX h => by cases x <;> first | exact h | exact False.elim h
theorem e_lenI {p pos : Pos} {e : Expr} {g : Env → W D} (hm : X.mg "len" = none) (h : E G X Wx e g) (hg : Gl X "len" := by rfl) (he : starEach [e] X.env = (false, eval e X.env) :: starEach [] X.env := by rfl) :
    E G X Wx (.Call (.Name "len" p) [e] [] pos) (fun ρ => bnd (g ρ) fun x => bnd (lenI x) fun i => ret (.int i)) :=
  (e_len' hm h hg he).eq (by
    have q : lenD = fun x => bnd (lenI x) fun i => ret (.int i) := by funext x; cases x <;> rfl
    rw [q])
/-! ### comparisons of known kinds -/
def eqI : D → D → W D
  | .int i, .int j => ret (.bl (decide (i = j)))
  | _, _ => stuck
def eqS : D → D → W D
  | .str i, .str j => ret (.bl (i == j))
  | _, _ => stuck
theorem Cm.imp {op : CmpOp} {h h' : D → D → W D} (m : Cm G X Wx op h) (hh : ∀ d e n P PX, h' d e n P PX → h d e n P PX) : Cm G X Wx op h' := by
  obtain ⟨r, o, v⟩ := m
  exact ⟨r, o, fun c σ ρ H n P PX d e v' w Q I rd re q hg hx => v c σ ρ H n P PX d e v' w Q I rd re (hh d e n P PX q) hg hx⟩
theorem cm_eqI (hu : X.A.units + 64 < cLine) : Cm G X Wx .Eq eqI := (cm_eq hu).imp fun d e n P PX h => by
  cases d <;> cases e <;> first | (rw [eqD_int]; exact h) | exact False.elim h
/-- a ** b of written numbers -/
theorem e_powC {a b : Expr} {pos : Pos} {i j v : Int} (ha : E G X Wx a (fun _ => ret (.int i))) (hb : E G X Wx b (fun _ => ret (.int j))) (h : CPow i j := by unfold CPow; decide +kernel) (hv : i ^ j.toNat = v := by decide +kernel) : E G X Wx (.BinOp a .Pow b pos) (fun _ => ret (.int v)) :=
  (e_pow ha hb).eq (by
    funext ρ
    show powD (.int i) (.int j) = _
    rw [← hv]
    exact grd_pos h _)
/-! ### displays -/
def AL (G : PenK) (X : Cx) (Wx : WX) (es : List Expr) (gs : List (Env → W D)) : Prop := A G X Wx es (fun ρ => bndL (gs.map fun g => g ρ) ret)
theorem A.eq {es : List Expr} {g g' : Env → W (List D)} (he : A G X Wx es g) (h : g = g') : A G X Wx es g' := h ▸ he
theorem al_nil : AL G X Wx [] [] := a_nil
theorem al_cons {e : Expr} {es : List Expr} {g : Env → W D} {gs : List (Env → W D)} (h : E G X Wx e g) (hs : AL G X Wx es gs) (hp : starEach (e :: es) X.env = (false, eval e X.env) :: starEach es X.env := by rfl) : AL G X Wx (e :: es) (g :: gs) :=
  (a_cons h hs hp).eq (by
    funext ρ
    show bnd (g ρ) (fun x => bnd (bndL (gs.map fun g => g ρ) ret) fun xs => ret (x :: xs)) = bnd (g ρ) fun x => bndL (gs.map fun g => g ρ) fun xs => ret (x :: xs)
    congr 1
    funext x
    rw [bndL_bnd]
    rfl)
theorem bndL_few {β : Type} {ms : List (W D)} {f : List D → W β} (h : ms.length ≤ 1000) : bnd (bndL ms ret) (fun xs => few xs (f xs)) = bndL ms f := by
  rw [bndL_bnd]
  exact bndL_len ms fun xs e => fewS (by omega) _
theorem e_tupL {es : List Expr} {x1 : Nat} {pos : Pos} {gs : List (Env → W D)} (h : AL G X Wx es gs) (hz : gs.length ≤ 1000 := by decide) : E G X Wx (.Tuple es x1 pos) (fun ρ => bndL (gs.map fun g => g ρ) fun xs => ret (.tup xs)) :=
  (e_tup h).eq (by funext ρ; exact bndL_few (by simpa using hz))
theorem EO.eq {e : Expr} {g g' : Env → W (List D)} (he : EO G X Wx e g) (h : g = g') : EO G X Wx e g' := h ▸ he
theorem o_lstL {es : List Expr} {pos : Pos} {gs : List (Env → W D)} (h : AL G X Wx es gs) (hz : gs.length ≤ 1000 := by decide) : EO G X Wx (.List es pos) (fun ρ => bndL (gs.map fun g => g ρ) ret) :=
  (o_lst h).eq (by funext ρ; exact bndL_few (by simpa using hz))
/-! ### comprehensions -/
theorem grd_onB {α : Type} (b : Bool) (m : W α) : grd (b = true) m = onB b m := by
  cases b with
  | true => exact grd_pos rfl m
  | false => funext n P X; exact propext ⟨fun h => (by have q := h.1; simp at q), fun h => False.elim h⟩
/-- what a comprehension's mirror is, over the values that its target takes -/
def compM {α β : Type} (mu : β → W α) (e : α → Env → Env) (vs : List Nat) (gt : Env → W Bool) (ge : Env → W D) (ρ : Env) (xs : List β) : W (List D) :=
  onB (noOwn vs ρ) (fewN xs.length (quiet (compP (fun x => bnd (mu x) fun a => bnd (gt (e a (wip vs ρ))) fun k => if k = true then bnd (ge (e a (wip vs ρ))) fun y => ret (some y) else ret none) xs)))
theorem grd_swap {α : Type} (p q : Prop) (m : W α) : grd p (grd q m) = grd q (grd p m) := by
  funext n P X
  exact propext ⟨fun ⟨a, b, c⟩ => ⟨b, a, c⟩, fun ⟨a, b, c⟩ => ⟨b, a, c⟩⟩
theorem compM_eq {α β : Type} {t : Tg} {f : β → D} {tt : List β → List D} {mu : β → W α} {e : α → Env → Env} (htt : ∀ ys, tt ys = ys.map f) (hs : ∀ x ρ, setT t (f x) ρ = bnd (mu x) fun a => ret (e a ρ)) (vs : List Nat) (gt : Env → W Bool) (ge : Env → W D) (ρ : Env) (ys : List β) :
    few (tt ys) (grd (noOwn vs ρ = true) (quiet (compW t gt ge (wip vs ρ) (tt ys)))) = compM mu e vs gt ge ρ ys := by
  unfold compM few fewN
  rw [grd_swap, grd_onB, compW_P, htt, compP_map, List.length_map]
  simp only [hs, bnd_bnd, bnd_ret]
theorem o_lcQ {α β : Type} {elt tg iter : Expr} {ifs : List Expr} {scope : Scope} {own : List (Str × Nat)} {pos : Pos} {t : Tg} {gy : Env → W (List β)} {tt : List β → List D} {f : β → D} {gt : Env → W Bool} {ge : Env → W D} {mu : β → W α} {ee : α → Env → Env} (htt : ∀ ys, tt ys = ys.map f) (hsT : ∀ x ρ, setT t (f x) ρ = bnd (mu x) fun a => ret (ee a ρ)) (hc : X.calm = true) (hN : X.N.Nodup) (hi : Wk G X Wx tg iter (fun ρ => bnd (gy ρ) fun ys => ret (tt ys))) (ok : BlkOk X.N X.env.scope scope own)
    (hg : ∀ (s : Shared) (H : Hp) (A : Addr) (cl : List (Str × Addr)) (fp : List Addr), PTg (X.blk s H scope (compEnvC scope cl A X.env) fp) tg t) (ht : ∀ (s : Shared) (H : Hp) (A : Addr) (cl : List (Str × Addr)) (fp : List Addr), Ts G (X.blk s H scope (compEnvC scope cl A X.env) fp) ifs gt)
    (he : ∀ (s : Shared) (H : Hp) (A : Addr) (cl : List (Str × Addr)) (fp : List Addr), E G (X.blk s H scope (compEnvC scope cl A X.env) fp) WF elt ge) (hix : ∀ i ∈ t.ix, i ∈ own.map (·.2) := by decide) (hs : ∀ x, foldedSetIterable iter X.env x = pure x := by intro _; rfl) :
    EO G X Wx (.ListComp elt [⟨tg, iter, ifs, 0⟩] scope pos) (fun ρ => bnd (gy ρ) (compM mu ee (own.map (·.2)) gt ge ρ)) :=
  (o_lc hc hN hi ok hg ht he hix hs).eq (by
    funext ρ
    show bnd (bnd (gy ρ) _) _ = _
    rw [bnd_bnd]
    congr 1
    funext xs
    exact compM_eq htt hsT _ _ _ _ _)
/-! ### walks -/
theorem Wk.eq {tg e : Expr} {g g' : Env → W (List D)} (he : Wk G X Wx tg e g) (h : g = g') : Wk G X Wx tg e g' := h ▸ he
def rngZ (lo : Int) (n : Nat) : List Int := (List.range n).map fun i => lo + (i : Nat)
theorem rngZ_map (lo : Int) (n : Nat) : rng lo n = (rngZ lo n).map .int := by
  unfold rng rngZ
  rw [List.map_map]
  rfl
def rngI (i : Int) : W (List Int) := grd (inR i) (ret (rngZ 0 i.toNat))
def rngD : D → W (List Int)
  | .int i => rngI i
  | _ => stuck
theorem seqT_map (ys : List D) : (fun ys : List D => ys) ys = ys.map fun y => y := by simp
theorem w_seqZ {tg e : Expr} {g : Env → W D} (h : E G X Wx e g) : Wk G X Wx tg e (fun ρ => bnd (bnd (g ρ) items) fun ys => ret ys) := w_seq h
theorem w_rng1Z {tg e : Expr} {p pos : Pos} {g : Env → W D} (hm : X.mg "range" = none) (h : E G X Wx e g) (hg : Gl X "range" := by rfl) (hs : starEach [e] X.env = [(false, eval e X.env)] := by rfl) : Wk G X Wx tg (.Call (.Name "range" p) [e] [] pos) (fun ρ => bnd (bnd (g ρ) rngD) fun ys => ret (ys.map .int)) :=
  (w_rng1 hm h hg hs).eq (by
    have q : rng1 = fun d => bnd (rngD d) fun ys => ret (ys.map D.int) := by
      funext d
      cases d with
      | int i =>
        show grd _ (ret (rng 0 i.toNat)) = _
        rw [rngZ_map]
        rfl
      | _ => rfl
    rw [q]
    rfl)
def enumZ (i : Nat) : List D → List (Int × D)
  | [] => []
  | x :: xs => ((i : Int), x) :: enumZ (i + 1) xs
def eT (p : Int × D) : D := .tup [.int p.1, p.2]
theorem enumZ_map : ∀ (i : Nat) (xs : List D), enumFrom i xs = (enumZ i xs).map eT
  | _, [] => rfl
  | i, x :: xs => by
    show _ :: enumFrom (i + 1) xs = _ :: _
    rw [enumZ_map (i + 1) xs]
    rfl
def enumI (d : D) : W (List (Int × D)) := bnd (items d) fun xs => ret (enumZ 0 xs)
theorem w_enumZ {elts : List Expr} {kk : Nat} {tpos p pos : Pos} {e : Expr} {g : Env → W D} (hm : X.mg "enumerate" = none) (h : E G X Wx e g) (hg : Gl X "enumerate" := by rfl) (hs : starEach [e] X.env = [(false, eval e X.env)] := by rfl) :
    Wk G X Wx (.Tuple elts kk tpos) (.Call (.Name "enumerate" p) [e] [] pos) (fun ρ => bnd (bnd (g ρ) enumI) fun ys => ret (ys.map eT)) :=
  (w_enum hm h hg hs).eq (by
    have q : enumD = fun d => bnd (enumI d) fun ys => ret (ys.map eT) := by
      funext d
      cases d with
      | lst xs => show ret (enumFrom 0 xs) = _; rw [enumZ_map]; rfl
      | tup xs => show ret (enumFrom 0 xs) = _; rw [enumZ_map]; rfl
      | _ => rfl
    rw [q]
    rfl)
def chD (k : Nat) : D := .str ⟨#[k]⟩
def codesD : D → W (List Nat)
  | .str x => ret x.cps.toList
  | _ => stuck
theorem w_strZ {tg e : Expr} {g : Env → W D} (h : E G X Wx e g) : Wk G X Wx tg e (fun ρ => bnd (bnd (g ρ) codesD) fun ys => ret (ys.map chD)) :=
  (w_str h).eq (by
    have q : signs = fun d => bnd (codesD d) fun ys => ret (ys.map chD) := by
      funext d
      cases d <;> rfl
    rw [q]
    rfl)
theorem eT_inj (a b : Int × D) (h : eT a = eT b) : a = b := by
  cases a; cases b
  unfold eT at h
  simp at h
  simp [h]
theorem int_inj (a b : Int) (h : D.int a = D.int b) : a = b := D.int.inj h
theorem lst_inj (a b : List D) (h : D.lst a = D.lst b) : a = b := D.lst.inj h
theorem tup_inj (a b : List D) (h : D.tup a = D.tup b) : a = b := D.tup.inj h
theorem dic_inj (a b : List (Key × D)) (h : D.dic a = D.dic b) : a = b := D.dic.inj h
theorem id_inj {α : Type} (a b : α) (h : (fun x : α => x) a = (fun x : α => x) b) : a = b := h
theorem setT_1 (i : Nat) {β : Type} (f : β → D) (x : β) (ρ : Env) : setT (.nm i) (f x) ρ = bnd (ret x) fun a => ret (ρ.set i (.d (f a))) := rfl
theorem setT_e (i j : Nat) (p : Int × D) (ρ : Env) : setT (.tp [.nm i, .nm j]) (eT p) ρ = bnd (ret p) fun p => ret ((ρ.set i (.d (.int p.1))).set j (.d p.2)) := grd_pos rfl _
/-! ### statements by values -/
variable {γ : Type} {En : Enz γ} {ρ : Env} {rest : List Stmt} {m : W γ}
theorem lt_lit {ρ : Env} {i L : Nat} (h : ρ.length = L) (hi : i < L) : i < ρ.length := h ▸ hi
theorem set_inj {α : Type} {f : α → D} {i : Nat} (hi : i < ρ.length) (inj : ∀ a b, f a = f b → a = b) (a b : α) (h : ρ.set i (.d (f a)) = ρ.set i (.d (f b))) : a = b := by
  have q := congrArg (·[i]?) h
  simp only [List.getElem?_set_self hi] at q
  exact inj a b (SV.d.inj (Option.some.inj q))
theorem own_inj {α : Type} {f : α → List D} {i : Nat} (hi : i < ρ.length) (inj : ∀ a b, f a = f b → a = b) (a b : α) (h : ρ.set i (.own (f a)) = ρ.set i (.own (f b))) : a = b := by
  have q := congrArg (·[i]?) h
  simp only [List.getElem?_set_self hi] at q
  exact inj a b (SV.own.inj (Option.some.inj q))
/-- x = e -/
theorem sg_asg {tg e : Expr} {pos : Pos} {g : Env → W D} {α : Type} {m0 : W α} {f : α → D} {k : α → W γ} {ρ' : α → Env} (i L : Nat) (h : E G X Wx e g) (ht : PTg X tg (.nm i)) (hg : g ρ = bnd m0 fun a => ret (f a)) (inj : ∀ a b, f a = f b → a = b) (hL : ρ.length = L) (hi : i < L) (hρ : ∀ a, ρ.set i (.d (f a)) = ρ' a) (hr : ∀ a, SG G X Wx rest (ρ' a) En (k a))
    (h1 : (assignEach [tg] X.env).map (·.2) = [assign tg X.env] := by rfl) (hs : swapsWithSole [tg] e pos.line X.env = pure false := by rfl) (hw : swappedStores [tg] e X.env = pure none := by rfl) : SG G X Wx (.Assign [tg] e pos :: rest) ρ En (bnd m0 k) :=
  sg_stmt (s_asg h ht h1 hs hw) (by rw [hg]; rfl) (set_inj (lt_lit hL hi) inj) fun a => by rw [hρ]; exact hr a
/-- x = e, e known -/
theorem sg_asgP {tg e : Expr} {pos : Pos} {g : Env → W D} {d : D} {ρ' : Env} (i : Nat) (h : E G X Wx e g) (ht : PTg X tg (.nm i)) (hg : g ρ = ret d) (hρ : ρ.set i (.d d) = ρ') (hr : SG G X Wx rest ρ' En m)
    (h1 : (assignEach [tg] X.env).map (·.2) = [assign tg X.env] := by rfl) (hs : swapsWithSole [tg] e pos.line X.env = pure false := by rfl) (hw : swappedStores [tg] e X.env = pure none := by rfl) : SG G X Wx (.Assign [tg] e pos :: rest) ρ En m :=
  sg_stmt (m0 := ret ()) (e := fun _ => ρ.set i (.d d)) (k := fun _ => m) (s_asg h ht h1 hs hw) (by rw [hg]; rfl) (fun _ _ _ => rfl) fun _ => by rw [hρ]; exact hr
/-- x = [..] on one line -/
theorem sg_asgLc {α β : Type} {y : Str} {py spos : Pos} {elt tg iter : Expr} {ifs : List Expr} {scope : Scope} {own : List (Str × Nat)} {pos : Pos} {t : Tg} {gy : Env → W (List β)} {tt : List β → List D} {f : β → D} {gt : Env → W Bool} {ge : Env → W D} {mu : β → W α} {ee : α → Env → Env} {m0 : W (List D)} {k : List D → W γ} {ρ' : List D → Env} (i L : Nat) (htt : ∀ ys, tt ys = ys.map f) (hsT : ∀ x ρ, setT t (f x) ρ = bnd (mu x) fun a => ret (ee a ρ)) (hc : X.calm = true) (hN : X.N.Nodup) (hi : Wk G X Wx tg iter (fun ρ => bnd (gy ρ) fun ys => ret (tt ys))) (ok : BlkOk X.N X.env.scope scope own)
    (hg : ∀ (s : Shared) (H : Hp) (A : Addr) (cl : List (Str × Addr)) (fp : List Addr), PTg (X.blk s H scope (compEnvC scope cl A X.env) fp) tg t) (ht : ∀ (s : Shared) (H : Hp) (A : Addr) (cl : List (Str × Addr)) (fp : List Addr), Ts G (X.blk s H scope (compEnvC scope cl A X.env) fp) ifs gt)
    (he : ∀ (s : Shared) (H : Hp) (A : Addr) (cl : List (Str × Addr)) (fp : List Addr), E G (X.blk s H scope (compEnvC scope cl A X.env) fp) WF elt ge) (hm : bnd (gy ρ) (compM mu ee (own.map (·.2)) gt ge ρ) = m0) (hL : ρ.length = L) (hiL : i < L) (hρ : ∀ a, ρ.set i (.d (.lst a)) = ρ' a) (hr : ∀ a, SG G X Wx rest (ρ' a) En (k a)) (hy : X.N[i]? = some y := by rfl) (hyl : X.env.scope.names.lookup y = some .local := by rfl) (hix : ∀ i ∈ t.ix, i ∈ own.map (·.2) := by decide)
    (hk : X.env.scope.kind = .function := by rfl) (hln : (py.line == pos.line) = true := by rfl) (hsc : (scope.names.any fun (n, k) => n == y && (k == .local || k == .cell)) = false := by rfl) (hs : ∀ x, foldedSetIterable iter X.env x = pure x := by intro _; rfl) :
    SG G X Wx (.Assign [.Name y py] (.ListComp elt [⟨tg, iter, ifs, 0⟩] scope pos) spos :: rest) ρ En (bnd m0 k) :=
  sg_stmt (e := fun xs => ρ.set i (.d (.lst xs))) (s_asgLc i hc hN hi ok hg ht he hy hyl hix hk hln hsc hs) (by
    rw [← hm]
    show bnd (bnd (gy ρ) fun ys => few (tt ys) (grd (noOwn (own.map (·.2)) ρ = true) (quiet (compW t gt ge (wip (own.map (·.2)) ρ) (tt ys))))) _ = bnd (bnd (gy ρ) _) _
    congr 2
    funext xs
    exact compM_eq htt hsT _ _ _ _ _) (set_inj (f := .lst) (lt_lit hL hiL) fun _ _ h => D.lst.inj h) fun a => by rw [hρ]; exact hr a
/-- a, b = e -/
theorem sg_asg2 {tg e : Expr} {pos : Pos} {g : Env → W D} {α : Type} {m0 : W α} {f1 f2 : α → D} {k : α → W γ} {ρ' : α → Env} (i j L : Nat) (h : E G X Wx e g) (ht : PTg X tg (.tp [.nm i, .nm j])) (hg : bnd (g ρ) unp2 = bnd m0 fun a => ret (f1 a, f2 a)) (inj : ∀ a b, f1 a = f1 b → f2 a = f2 b → a = b) (hL : ρ.length = L) (hi : i < L) (hj : j < L) (hij : j ≠ i) (hρ : ∀ a, (ρ.set i (.d (f1 a))).set j (.d (f2 a)) = ρ' a) (hr : ∀ a, SG G X Wx rest (ρ' a) En (k a))
    (h1 : (assignEach [tg] X.env).map (·.2) = [assign tg X.env] := by rfl) (hs : swapsWithSole [tg] e pos.line X.env = pure false := by rfl) (hw : swappedStores [tg] e X.env = pure none := by rfl) : SG G X Wx (.Assign [tg] e pos :: rest) ρ En (bnd m0 k) :=
  sg_stmt (e := fun a => (ρ.set i (.d (f1 a))).set j (.d (f2 a))) (s_asg h ht h1 hs hw) (by
    have q : (fun d => bnd (setT (.tp [.nm i, .nm j]) d ρ) fun ρ' => ret (Out.nx ρ')) = fun d => bnd (unp2 d) fun p => ret (.nx ((ρ.set i (.d p.1)).set j (.d p.2))) := by
      funext d
      rw [setT_tp2]
      rfl
    rw [q, ← bnd_bnd, hg]
    rfl) (fun a b hab => by
    have q := congrArg (·[j]?) hab
    simp only [List.getElem?_set_self (show j < (ρ.set i (SV.d (f1 a))).length by simp [hL, hj]), List.getElem?_set_self (show j < (ρ.set i (SV.d (f1 b))).length by simp [hL, hj])] at q
    have q2 := congrArg (·[i]?) hab
    simp only [List.getElem?_set_ne hij, List.getElem?_set_self (show i < ρ.length by rw [hL]; exact hi)] at q2
    exact inj a b (SV.d.inj (Option.some.inj q2)) (SV.d.inj (Option.some.inj q))) fun a => by rw [hρ]; exact hr a
/-- a, b, c = e -/
theorem sg_asg3 {tg e : Expr} {pos : Pos} {g : Env → W D} {α : Type} {m0 : W α} {f1 f2 f3 : α → D} {k : α → W γ} {ρ' : α → Env} (i j l L : Nat) (h : E G X Wx e g) (ht : PTg X tg (.tp [.nm i, .nm j, .nm l])) (hg : bnd (g ρ) unp3 = bnd m0 fun a => ret (f1 a, f2 a, f3 a)) (inj : ∀ a b, f1 a = f1 b → f2 a = f2 b → f3 a = f3 b → a = b) (hL : ρ.length = L) (hi : i < L) (hj : j < L) (hl : l < L) (hij : j ≠ i) (hil : l ≠ i) (hjl : l ≠ j) (hρ : ∀ a, ((ρ.set i (.d (f1 a))).set j (.d (f2 a))).set l (.d (f3 a)) = ρ' a) (hr : ∀ a, SG G X Wx rest (ρ' a) En (k a))
    (h1 : (assignEach [tg] X.env).map (·.2) = [assign tg X.env] := by rfl) (hs : swapsWithSole [tg] e pos.line X.env = pure false := by rfl) (hw : swappedStores [tg] e X.env = pure none := by rfl) : SG G X Wx (.Assign [tg] e pos :: rest) ρ En (bnd m0 k) :=
  sg_stmt (e := fun a => ((ρ.set i (.d (f1 a))).set j (.d (f2 a))).set l (.d (f3 a))) (s_asg h ht h1 hs hw) (by
    have q : (fun d => bnd (setT (.tp [.nm i, .nm j, .nm l]) d ρ) fun ρ' => ret (Out.nx ρ')) = fun d => bnd (unp3 d) fun p => ret (.nx (((ρ.set i (.d p.1)).set j (.d p.2.1)).set l (.d p.2.2))) := by
      funext d
      rw [setT_tp3]
      rfl
    rw [q, ← bnd_bnd, hg]
    rfl) (fun a b hab => by
    have q := congrArg (·[l]?) hab
    simp only [List.getElem?_set_self (show l < ((ρ.set i (SV.d (f1 a))).set j (SV.d (f2 a))).length by simp [hL, hl]), List.getElem?_set_self (show l < ((ρ.set i (SV.d (f1 b))).set j (SV.d (f2 b))).length by simp [hL, hl])] at q
    have q1 := congrArg (·[j]?) hab
    simp only [List.getElem?_set_ne hjl, List.getElem?_set_self (show j < (ρ.set i (SV.d (f1 a))).length by simp [hL, hj]), List.getElem?_set_self (show j < (ρ.set i (SV.d (f1 b))).length by simp [hL, hj])] at q1
    have q2 := congrArg (·[i]?) hab
    simp only [List.getElem?_set_ne hil, List.getElem?_set_ne hij, List.getElem?_set_self (show i < ρ.length by rw [hL]; exact hi)] at q2
    exact inj a b (SV.d.inj (Option.some.inj q2)) (SV.d.inj (Option.some.inj q1)) (SV.d.inj (Option.some.inj q))) fun a => by rw [hρ]; exact hr a
theorem sg_ownP {x : Str} {px pos : Pos} {e : Expr} {g : Env → W (List D)} {d : List D} {ρ' : Env} (i : Nat) (h : EO G X Wx e g) (hN : X.N.Nodup) (hg : g ρ = ret d) (hρ : ρ.set i (.own d) = ρ') (hr : SG G X Wx rest ρ' En m) (hi : X.N[i]? = some x := by rfl) (hx : Loc X.env.scope x := by first | exact Or.inl rfl | exact Or.inr rfl) (hf : X.fn x = true ∨ X.env.scope.names.lookup x = some .local := by first | exact .inl rfl | exact .inr rfl)
    (hs : swapsWithSole [.Name x px] e pos.line X.env = pure false := by rfl) (hw : swappedStores [.Name x px] e X.env = pure none := by rfl) : SG G X Wx (.Assign [.Name x px] e pos :: rest) ρ En m :=
  sg_stmt (m0 := ret ()) (e := fun _ => ρ.set i (.own d)) (k := fun _ => m) (s_own i h hN hi hx hf hs hw) (by rw [hg]; rfl) (fun _ _ _ => rfl) fun _ => by rw [hρ]; exact hr
/-- xs.append(e) -/
def roomL {α : Type} (xs : List D) (m : W α) : W α := grd (xs.length < sizeLine) m
theorem app_inj {α : Type} {f : α → D} {xs : List D} (inj : ∀ a b, f a = f b → a = b) (a b : α) (h : xs ++ [f a] = xs ++ [f b]) : a = b := inj a b (by
  have q := List.append_cancel_left h
  exact (List.cons.inj q).1)
theorem sg_app {x : Str} {px pa pc pos : Pos} {e : Expr} {g : Env → W D} {α : Type} {m0 : W α} {f : α → D} {k : α → W γ} {ρ' : α → Env} {xs : List D} (i L : Nat) (h : E G X Wx e g) (hx : ρ[i]? = some (.own xs)) (hg : g ρ = bnd m0 fun a => ret (f a)) (inj : ∀ a b, f a = f b → a = b) (hL : ρ.length = L) (hi : i < L) (hρ : ∀ a, ρ.set i (.own (xs ++ [f a])) = ρ' a) (hr : ∀ a, SG G X Wx rest (ρ' a) En (k a))
    (hN : X.N[i]? = some x := by rfl) (hv : Vis X.env.scope x := by first | exact Or.inl rfl | exact Or.inr (Or.inl rfl) | exact Or.inr (Or.inr rfl)) (hd : (x == ("__debug__" : Str)) = false := by decide)
    (hcd : (x == ("__classdict__" : Str)) = false := by decide) (hst : starEach [e] X.env = (false, eval e X.env) :: starEach [] X.env := by rfl)
    (hbase : attributeBase (.Name x px) "append" X.env (eval (.Name x px) X.env) = eval (.Name x px) X.env := by rfl)
    (hfew : ((backTo pc (starEach [e] X.env)).all (fun x => !x.1) && (backToKw pc (keywordEach [] X.env)).all (fun x => x.1.isSome)
      && decide (([e] : List Expr).length + ([] : List Keyword).length + (if ([] : List Keyword).isEmpty then 0 else 1) < 30)) = true := by rfl)
    (hline : (pa.endLine == pc.line) = true := by rfl) (hplain : (backTo pc (starEach [] X.env)).any (·.1) = false := by rfl) (hs : swapsWith (.Call (.Attribute (.Name x px) "append" pa) [e] [] pc) none pos.line X.env = pure false := by rfl) :
    SG G X Wx (.Expr (.Call (.Attribute (.Name x px) "append" pa) [e] [] pc) pos :: rest) ρ En (bnd m0 fun a => roomL xs (k a)) :=
  sg_eq (sg_stmt (m0 := bnd m0 fun a => roomL xs (ret a)) (e := fun a => ρ.set i (.own (xs ++ [f a]))) (k := k) (s_app i h hN hv hd hcd hst hbase hfew hline hplain hs) (by
    unfold ownAt
    rw [hx, hg]
    rfl) (own_inj (f := fun a => xs ++ [f a]) (lt_lit hL hi) (app_inj inj)) fun a => by rw [hρ]; exact hr a) rfl
end
end PL

/-! t[::-1] of a tuple or a list. -/
namespace PL
open PySem PySem.Spec L2 PyProof.Rows

section
variable {prog : Program} {w : World} {A : Around} {E : Value → Shared → Prop} {s : Shared}
end
section
variable {G : PenK} {X : Cx} {Wx : WX}
end
end PL

/-! Dicts of one's own, their keys; sorted texts; repeated lists. -/
namespace PL
open PySem PySem.Spec L2 PyProof.Rows

/-! ### pairs by key -/
def valD (kvs : List (Key × D)) (k : Key) : Option D := (kvs.find? fun kv => decide (kv.1 = k)).map (·.2)
def putD (kvs : List (Key × D)) (k : Key) (v : D) : List (Key × D) :=
  if (kvs.any fun kv => decide (kv.1 = k)) = true then kvs.map (fun kv => if kv.1 = k then (kv.1, v) else kv) else kvs ++ [(k, v)]
def keyD : D → Option Key
  | .int i => some (.inl i)
  | .str s => some (.inr s)
  | _ => none
def keyV : Key → D
  | .inl i => .int i
  | .inr s => .str s
section
variable {K : PySem.W.Frag} {S : Addr → Prop} {H : Hp}
theorem RepK.find : ∀ {kvs : List (Key × D)} {kws : List (Key × V)} (k : Key), RepK K S H kvs kws → (valD kvs k = none ∧ valV kws k = none) ∨ ∃ x v, valD kvs k = some x ∧ valV kws k = some v ∧ Rep K S H x v
  | [], _, k, h => by
    have e : _ = [] := h
    rw [e]
    exact .inl ⟨rfl, rfl⟩
  | (j, x) :: xs, _, k, h => by
    obtain ⟨v, ws, rfl, r, q⟩ := h
    by_cases e : j = k
    · refine .inr ⟨x, v, ?_, ?_, r⟩
      · simp [valD, List.find?_cons, e]
      · simp [valV, List.find?_cons, e]
    · have ih := RepK.find k q
      have e1 : valD ((j, x) :: xs) k = valD xs k := by simp [valD, List.find?_cons, e]
      have e2 : valV ((j, v) :: ws) k = valV ws k := by simp [valV, List.find?_cons, e]
      rw [e1, e2]
      exact ih
theorem RepK.any : ∀ {kvs : List (Key × D)} {kws : List (Key × V)} (k : Key), RepK K S H kvs kws → (kvs.any fun kv => decide (kv.1 = k)) = kws.any fun kv => decide (kv.1 = k)
  | [], _, k, h => by
    have e : _ = [] := h
    rw [e]
    rfl
  | (j, x) :: xs, _, k, h => by
    obtain ⟨v, ws, rfl, r, q⟩ := h
    rw [List.any_cons, List.any_cons, RepK.any k q]
def setK1 {α : Type} (k : Key) (x : α) : List (Key × α) → List (Key × α)
  | [] => []
  | (j, y) :: r => (if j = k then (j, x) else (j, y)) :: setK1 k x r
theorem setK1_eq {α : Type} (k : Key) (x : α) : ∀ l : List (Key × α), l.map (fun kv => if kv.1 = k then (kv.1, x) else kv) = setK1 k x l
  | [] => rfl
  | (j, y) :: r => by
    rw [List.map_cons, setK1_eq k x r]
    rfl
theorem RepK.mapP : ∀ {kvs : List (Key × D)} {kws : List (Key × V)} (k : Key) {x : D} {v : V}, RepK K S H kvs kws → Rep K S H x v → RepK K S H (setK1 k x kvs) (setK1 k v kws)
  | [], _, k, x, v, h, _ => by
    have e : _ = [] := h
    rw [e]
    rfl
  | (j, y) :: xs, _, k, x, v, h, rx => by
    obtain ⟨w, ws, rfl, r, q⟩ := h
    have ih := RepK.mapP k q rx
    unfold setK1
    by_cases e : j = k
    · rw [if_pos e, if_pos e]
      exact ⟨v, _, rfl, rx, ih⟩
    · rw [if_neg e, if_neg e]
      exact ⟨w, _, rfl, r, ih⟩
theorem RepK.app : ∀ {xs ys : List (Key × D)} {vs ws : List (Key × V)}, RepK K S H xs vs → RepK K S H ys ws → RepK K S H (xs ++ ys) (vs ++ ws)
  | [], ys, vs, ws, h, q => by
    have e : vs = [] := h
    rw [e]
    exact q
  | (k, x) :: xs, ys, vs, ws, h, q => by
    obtain ⟨v, us, rfl, r, t⟩ := h
    exact ⟨v, us ++ ws, rfl, r, RepK.app t q⟩
theorem RepK.put {kvs : List (Key × D)} {kws : List (Key × V)} (k : Key) {x : D} {v : V} (h : RepK K S H kvs kws) (r : Rep K S H x v) : RepK K S H (putD kvs k x) (putK kws k v) := by
  unfold putD putK
  rw [RepK.any k h]
  split
  · rw [setK1_eq, setK1_eq]
    exact RepK.mapP k h r
  · exact RepK.app h ⟨v, [], rfl, r, rfl⟩
theorem RepK.keys : ∀ {kvs : List (Key × D)} {kws : List (Key × V)}, RepK K S H kvs kws → (∀ kv ∈ kvs, ∀ s, kv.1 = .inr s → s.length ≤ sizeLine) → Reps K S H (kvs.map fun kv => keyV kv.1) (kws.map fun kv => kV kv.1)
  | [], _, h, _ => by
    have e : _ = [] := h
    rw [e]
    exact Reps.nil
  | (k, x) :: xs, _, h, hz => by
    obtain ⟨v, ws, rfl, r, q⟩ := h
    refine Reps.cons ?_ (RepK.keys q fun kv hk => hz kv (List.mem_cons_of_mem _ hk))
    cases k with
    | inl i => exact rfl
    | inr s => exact ⟨rfl, hz _ List.mem_cons_self s rfl⟩
theorem keyD_rep {d : D} {v : V} {k : Key} (h : keyD d = some k) (r : Rep K S H d v) : v = kV k := by
  cases d with
  | int i => cases h; exact r
  | str s => cases h; exact r.1
  | _ => cases h
end

/-! ### a name takes a new dict; a dict of one's own is changed -/
section
variable {G : PenK} {K : PySem.W.Frag} {c : C} {σ : L2.St} {ρ : Env} {H H' : Hp} {n k : Nt} {S' : Addr → Prop}
theorem SI.setK {i : Nat} {xs : List (Key × D)} {a : Addr} {vs : List (Key × V)} (I : SI G K c σ H ρ n) (e1 : H a = some (.dK vs)) (r : RepK K c.S H xs vs) (y : Young c n a)
    (f : ∀ j sv, i ≠ j → ρ[j]? = some sv → sv.isOwn = true → slot σ j ≠ some (.ref a)) : SI G K c (σ.set i (some (.ref a))) H (ρ.set i (.ownK xs)) n := by
  have key : ∀ j sv, (ρ.set i (.ownK xs))[j]? = some sv → (j = i ∧ sv = .ownK xs ∧ slot (σ.set i (some (.ref a))) j = some (.ref a)) ∨ (i ≠ j ∧ ρ[j]? = some sv ∧ slot (σ.set i (some (.ref a))) j = slot σ j) := fun j sv e => by
    by_cases h : i = j
    · subst h
      have hl : i < ρ.length := by
        have := (List.getElem?_eq_some_iff.mp e).1
        rwa [List.length_set] at this
      rw [List.getElem?_set_self hl] at e
      exact .inl ⟨rfl, (Option.some.inj e).symm, slot_set_same (I.len ▸ hl)⟩
    · rw [List.getElem?_set_ne h] at e
      exact .inr ⟨h, e, slot_set_ne h⟩
  refine ⟨by rw [List.length_set, List.length_set, I.len], fun j sv e => ?_, fun j sv b e ho es => ?_, fun j k sv sv' b hn e e' ho ho' es es' => ?_, I.dom, I.fr, I.pen, I.no, I.tab, I.mu, I.mu0, I.mz⟩
  · rcases key j sv e with ⟨_, rfl, h⟩ | ⟨_, h, h2⟩
    · exact ⟨a, vs, h, e1, r⟩
    · rw [h2]; exact I.slots j sv h
  · rcases key j sv e with ⟨_, rfl, h⟩ | ⟨_, h, h2⟩
    · rw [h] at es; cases es; exact y
    · exact I.own j sv b h ho (h2 ▸ es)
  · rcases key j sv e with ⟨h0, rfl, h⟩ | ⟨_, h, h2⟩
    · rcases key k sv' e' with ⟨h0', rfl, h'⟩ | ⟨_, h', h2'⟩
      · exact hn (h0.trans h0'.symm)
      · rw [h] at es; cases es
        exact f k sv' (h0 ▸ hn) h' ho' (h2' ▸ es')
    · rcases key k sv' e' with ⟨h0', rfl, h'⟩ | ⟨_, h', h2'⟩
      · rw [h'] at es'; cases es'
        exact f j sv (fun q => hn (q ▸ h0'.symm)) h ho (h2 ▸ es)
      · exact I.apart j k sv sv' b hn h h' ho ho' (h2 ▸ es) (h2' ▸ es')
theorem SI.mutK {i : Nat} {xs ys : List (Key × D)} {a : Addr} {vs : List (Key × V)} (I : SI G K c σ H ρ n) (e : ρ[i]? = some (.ownK xs)) (es : slot σ i = some (.ref a)) (r : RepK K c.S H ys vs) :
    SI G K c σ (upd H a (.dK vs)) (ρ.set i (.ownK ys)) n ∧ Grow c.S c.S H (upd H a (.dK vs)) := by
  obtain ⟨y1, y2, y3⟩ := I.own i _ a e rfl es
  have hl : i < ρ.length := (List.getElem?_eq_some_iff.mp e).1
  have g : Grow c.S c.S H (upd H a (.dK vs)) := ⟨fun _ q => q, fun b q => upd_ne fun z => y1 (z ▸ q)⟩
  have key : ∀ j sv, (ρ.set i (.ownK ys))[j]? = some sv → (j = i ∧ sv = .ownK ys) ∨ (i ≠ j ∧ ρ[j]? = some sv) := fun j sv e => by
    by_cases h : i = j
    · subst h
      rw [List.getElem?_set_self hl] at e
      exact .inl ⟨rfl, (Option.some.inj e).symm⟩
    · rw [List.getElem?_set_ne h] at e
      exact .inr ⟨h, e⟩
  refine ⟨⟨by rw [List.length_set, I.len], fun j sv e2 => ?_, fun j sv b e2 ho es2 => ?_, fun j k sv sv' b hn e1 e2 ho ho' es1 es2 => ?_, fun b q => ?_, fun b o e2 hn => ?_, fun p e2 => ?_, I.no, fun q e => ⟨(I.tab q e).1, (I.tab q e).2.grow g (upd_ne fun z => (I.tabN e).2.1 (z ▸ y2))⟩, fun b nd e => ⟨(I.mu b nd e).1.grow g (upd_ne fun z => (by rw [z, y3] at e; cases e)), (I.mu b nd e).2⟩, I.mu0, I.mz⟩, g⟩
  · rcases key j sv e2 with ⟨rfl, rfl⟩ | ⟨hn, h⟩
    · exact ⟨a, vs, es, upd_same, RepK.grow g _ _ r⟩
    · exact (I.slots j sv h).grow g fun b eb ho => upd_ne fun q => I.apart i j _ sv a hn e h rfl ho es (q ▸ eb)
  · rcases key j sv e2 with ⟨rfl, rfl⟩ | ⟨hn, h⟩
    · exact I.own j _ b e rfl es2
    · exact I.own j sv b h ho es2
  · rcases key j sv e1 with ⟨rfl, rfl⟩ | ⟨hn1, h1⟩
    · rcases key k sv' e2 with ⟨rfl, rfl⟩ | ⟨hn2, h2⟩
      · exact hn rfl
      · exact I.apart j k _ sv' b hn e h2 rfl ho' es1 es2
    · rcases key k sv' e2 with ⟨rfl, rfl⟩ | ⟨hn2, h2⟩
      · exact I.apart j k sv _ b hn h1 e ho rfl es1 es2
      · exact I.apart j k sv sv' b hn h1 h2 ho ho' es1 es2
  · rw [g.eq b q]; exact I.dom b q
  · have q := I.fr b o e2 hn
    rw [upd_ne fun z => by rw [z, y2] at e2; cases e2]
    exact q
  · obtain ⟨h1, h2, h3, h4, h5⟩ := I.pen p e2
    exact ⟨G.dep h1 (upd_ne fun z => h4 (z ▸ y2)) (upd_ne fun z => h5 (z ▸ y2)), h2, h3, h4, h5⟩
/-- a new object, at nobody's hands -/
theorem SI.bare {a : Addr} {o : HO} (I : SI G K c σ H ρ n) (hp : H a = none) : SI G K c σ (upd H a o) ρ n ∧ Grow c.S c.S H (upd H a o) ∧ FreshAt c n σ ρ a := by
  have ne : ∀ b, H b ≠ none → b ≠ a := fun b q e => q (e ▸ hp)
  have g : Grow c.S c.S H (upd H a o) := ⟨fun _ q => q, fun b q => upd_ne (ne b (I.dom b q))⟩
  refine ⟨⟨I.len, fun i sv e => (I.slots i sv e).grow g fun b eb ho => upd_ne (ne b (I.own_there ⟨i, sv, e, ho, eb⟩)), I.own, I.apart, fun b q => by rw [upd_ne (ne b (I.dom b q))]; exact I.dom b q,
    fun b u e q => by
      have := I.fr b u e q
      rw [upd_ne (ne b (by rw [this]; exact fun z => nomatch z))]
      exact this, fun q e => by
      obtain ⟨h1, h2, h3, h4, h5⟩ := I.pen q e
      obtain ⟨k1, k2⟩ := G.there h1
      exact ⟨G.dep h1 (upd_ne (ne _ k1)) (upd_ne (ne _ k2)), h2, h3, h4, h5⟩, I.no, fun q e => ⟨(I.tab q e).1, (I.tab q e).2.grow g (upd_ne (ne _ (I.tabN e).2.2))⟩, fun b nd e => ⟨(I.mu b nd e).1.grow g (upd_ne (ne _ (I.mu b nd e).1.there)), (I.mu b nd e).2⟩, I.mu0, I.mz⟩, g, ⟨⟨fun q => I.dom a q hp, I.freeOld hp, I.freeM hp⟩, fun i sv e ho es => I.own_there ⟨i, sv, e, ho, es⟩ hp⟩⟩
end

/-! ### expressions that give a new dict -/
section
variable (G : PenK) (X : Cx) (Wx : WX)
def GlK (c : C) (σ : L2.St) (ρ : Env) (H : Hp) (P : List (Key × D) → Nt → Prop) (Q : VK) : Prop :=
  ∀ xs k a vs S' H', P xs k → Grow c.S S' H H' → SI G X.K (c.to S') σ H' ρ k → H' a = some (.dK vs) → RepK X.K S' H' xs vs → FreshAt (c.to S') k σ ρ a → Q (.ref a) H'
def tKd (g : Env → W (List (Key × D))) : TE := fun σ H Q => ∃ c ρ n P PX, SI G X.K c σ H ρ n ∧ g ρ n P PX ∧ GlK G X c σ ρ H P Q ∧ OKx G X Wx c σ ρ H PX
def EK (e : Expr) (g : Env → W (List (Key × D))) : Prop := PE X e (tKd G X Wx g)
end
section
variable {G : PenK} {X : Cx} {Wx : WX} {γ : Type} {En : Enz γ} {ρ : Env} {rest : List Stmt} {m : W γ}
theorem EK.e {e : Expr} {g : Env → W (List (Key × D))} (h : EK G X Wx e g) : E G X Wx e (fun ρ => bnd (g ρ) fun xs => ret (.dic xs)) :=
  weakE h fun σ H Q ⟨c, ρ, n, P, PX, I, q, hg, hx⟩ => ⟨c, ρ, n, fun xs k => P (.dic xs) k, PX, I, q, fun xs k a vs S' H' p g I' e r f => by
    obtain ⟨I2, g2⟩ := I'.adopt f (by rw [e]; exact fun z => nomatch z)
    exact hg (.dic xs) k (.ref a) _ H' p (g.trans g2) I2 ⟨a, vs, rfl, ⟨.inr rfl, .inl e⟩, RepK.grow g2 _ _ r⟩, hx⟩
/-- x = a new dict of one's own -/
theorem s_ownK {x : Str} {px pos : Pos} {e : Expr} {g : Env → W (List (Key × D))} (i : Nat) (h : EK G X Wx e g) (hN : X.N.Nodup) (hi : X.N[i]? = some x := by rfl) (hx : Loc X.env.scope x := by first | exact Or.inl rfl | exact Or.inr rfl) (hf : X.fn x = true ∨ X.env.scope.names.lookup x = some .local := by first | exact .inl rfl | exact .inr rfl)
    (hs : swapsWithSole [.Name x px] e pos.line X.env = pure false := by rfl) (hw : swappedStores [.Name x px] e X.env = pure none := by rfl) : St1 G X Wx (.Assign [.Name x px] e pos) (fun ρ => bnd (g ρ) fun xs => ret (.nx (ρ.set i (.ownK xs)))) :=
  weakS (ps_asg h (pg_name hN hi hx hf) hs hw) fun Dn σ H ⟨c, ρ, n, P, PX, I, q, hg, hx⟩ => ⟨c, ρ, n, fun xs k => P (.nx (ρ.set i (.ownK xs))) k, PX, I, q, fun xs k a vs S' H' p g I' e r f => hg.1 _ k _ S' H' p g (I'.setK e r f.1 fun j sv _ h1 h2 => f.2 j sv h1 h2), hx.x⟩
theorem ownK_inj {α : Type} {f : α → List (Key × D)} {i : Nat} (hi : i < ρ.length) (inj : ∀ a b, f a = f b → a = b) (a b : α) (h : ρ.set i (.ownK (f a)) = ρ.set i (.ownK (f b))) : a = b := by
  have q := congrArg (·[i]?) h
  simp only [List.getElem?_set_self hi] at q
  exact inj a b (SV.ownK.inj (Option.some.inj q))
theorem sg_dic {x : Str} {px pos : Pos} {e : Expr} {g : Env → W (List (Key × D))} {m0 : W (List (Key × D))} {k : List (Key × D) → W γ} {ρ' : List (Key × D) → Env} (i L : Nat) (h : EK G X Wx e g) (hN : X.N.Nodup) (hg : g ρ = m0) (hL : ρ.length = L) (hiL : i < L) (hρ : ∀ a, ρ.set i (.ownK a) = ρ' a) (hr : ∀ a, SG G X Wx rest (ρ' a) En (k a)) (hi : X.N[i]? = some x := by rfl) (hx : Loc X.env.scope x := by first | exact Or.inl rfl | exact Or.inr rfl) (hf : X.fn x = true ∨ X.env.scope.names.lookup x = some .local := by first | exact .inl rfl | exact .inr rfl)
    (hs : swapsWithSole [.Name x px] e pos.line X.env = pure false := by rfl) (hw : swappedStores [.Name x px] e X.env = pure none := by rfl) : SG G X Wx (.Assign [.Name x px] e pos :: rest) ρ En (bnd m0 k) :=
  sg_stmt (s_ownK i h hN hi hx hf hs hw) (by rw [hg]) (ownK_inj (f := fun a => a) (lt_lit hL hiL) fun _ _ h => h) fun a => by rw [hρ]; exact hr a
/-- d[k] = v -/
def putW (kvs : List (Key × D)) (k v : D) : W (List (Key × D)) := match keyD k with
  | some kk => grd (kvs.length < sizeLine) (ret (putD kvs kk v))
  | none => stuck
def ownKAt (ρ : Env) (i : Nat) (f : List (Key × D) → W Out) : W Out := match ρ[i]? with
  | some (.ownK xs) => f xs
  | _ => stuck
theorem ownKAt_inv {ρ : Env} {i : Nat} {n : Nt} {f : List (Key × D) → W Out} {P : Out → Nt → Prop} {PX : Exc → Nt → Prop} (h : ownKAt ρ i f n P PX) : ∃ xs, ρ[i]? = some (.ownK xs) ∧ f xs n P PX := by
  unfold ownKAt at h
  cases e : ρ[i]? with
  | none => rw [e] at h; exact False.elim h
  | some sv =>
    rw [e] at h
    cases sv with
    | ownK xs => exact ⟨xs, rfl, h⟩
    | _ => exact False.elim h
theorem s_put {x : Str} {px ps pos : Pos} {k e : Expr} {gk ge : Env → W D} (i : Nat) (hu : X.A.units + 1 < cLine) (hk : E G X Wx k gk) (he : E G X Wx e ge) (hN : X.N[i]? = some x := by rfl) (hv : Vis X.env.scope x := by first | exact Or.inl rfl | exact Or.inr (Or.inl rfl) | exact Or.inr (Or.inr rfl)) (hd : (x == ("__debug__" : Str)) = false := by decide)
    (hcd : (x == ("__classdict__" : Str)) = false := by decide) (hs : swapsWith e (some (.Subscript (.Name x px) k ps)) pos.line X.env = pure false := by rfl) :
    St1 G X Wx (.Assign [.Subscript (.Name x px) k ps] e pos) (fun ρ => ownKAt ρ i fun xs => bnd (bnd (ge ρ) fun v => bnd (gk ρ) fun k => putW xs k v) fun ys => ret (.nx (ρ.set i (.ownK ys)))) :=
  weakS (ps_dput hu (pe_var hN hv hd hcd) hk he hs) fun Dn σ H ⟨c, ρ, n, P, PX, I, q, hg, hx⟩ => by
    obtain ⟨xs, e1, q⟩ := ownKAt_inv q
    obtain ⟨a, vs, e2, e3, r⟩ := I.slots i _ e1
    refine tE.bnd (α := Out) (P := P) (f := fun v => bnd (gk ρ) fun k => bnd (putW xs k v) fun ys => ret (Out.nx (ρ.set i (.ownK ys)))) I q hx.x fun d k0 v S' H' p g I' hx' r' => ⟨.ref a, slot_some e2, tE.bnd (α := Out) (P := P) (f := fun k => bnd (putW xs k d) fun ys => ret (Out.nx (ρ.set i (.ownK ys)))) I' p hx' fun kd k1 kv S2 H2 p2 g2 I2 hx2 rk => ?_⟩
    obtain ⟨a', vs', e4, e5, r2⟩ := I2.slots i _ e1
    rw [e2] at e4
    cases e4
    have p2 : bnd (putW xs kd d) (fun ys => ret (Out.nx (ρ.set i (.ownK ys)))) k1 P PX := p2
    unfold putW at p2
    cases ek : keyD kd with
    | none => rw [ek] at p2; exact False.elim p2
    | some kk =>
      rw [ek] at p2
      obtain ⟨z, p2⟩ := p2
      obtain rfl := keyD_rep ek rk
      obtain ⟨I3, g3⟩ := I2.mutK e1 e2 (ys := putD xs kk d) (vs := putK vs' kk v) (RepK.put kk r2 (Rep.grow g2 _ _ r'))
      exact ⟨a, _, rfl, DPut.k e5 (by rw [r2.len]; exact z), hg.1 _ k1 σ _ _ p2 ((g.trans g2).trans g3) I3⟩
theorem sg_put {x : Str} {px ps pos : Pos} {k e : Expr} {gk ge : Env → W D} {xs : List (Key × D)} {m0 : W (List (Key × D))} {kk : List (Key × D) → W γ} {ρ' : List (Key × D) → Env} (i L : Nat) (hu : X.A.units + 1 < cLine) (hk : E G X Wx k gk) (he : E G X Wx e ge) (hx : ρ[i]? = some (.ownK xs)) (hg : (bnd (ge ρ) fun v => bnd (gk ρ) fun k => putW xs k v) = m0) (hL : ρ.length = L) (hi : i < L) (hρ : ∀ a, ρ.set i (.ownK a) = ρ' a) (hr : ∀ a, SG G X Wx rest (ρ' a) En (kk a))
    (hN : X.N[i]? = some x := by rfl) (hv : Vis X.env.scope x := by first | exact Or.inl rfl | exact Or.inr (Or.inl rfl) | exact Or.inr (Or.inr rfl)) (hd : (x == ("__debug__" : Str)) = false := by decide)
    (hcd : (x == ("__classdict__" : Str)) = false := by decide) (hs : swapsWith e (some (.Subscript (.Name x px) k ps)) pos.line X.env = pure false := by rfl) :
    SG G X Wx (.Assign [.Subscript (.Name x px) k ps] e pos :: rest) ρ En (bnd m0 kk) :=
  sg_stmt (s_put i hu hk he hN hv hd hcd hs) (by
    unfold ownKAt
    rw [hx, ← hg]) (ownK_inj (f := fun a => a) (lt_lit hL hi) fun _ _ h => h) fun a => by rw [hρ]; exact hr a
/-! ### reading dicts -/
def optW {α : Type} : Option α → W α
  | some a => ret a
  | none => stuck
theorem optW_inv {α : Type} {o : Option α} {n : Nt} {P : α → Nt → Prop} {PX : Exc → Nt → Prop} (h : optW o n P PX) : ∃ a, o = some a ∧ P a n := by
  cases o with
  | some a => exact ⟨a, rfl, h⟩
  | none => exact False.elim h
def dgetD (d k : D) : W D := match d with
  | .dic kvs => bnd (optW (keyD k)) fun kk => optW (valD kvs kk)
  | _ => stuck
theorem e_dget {o i : Expr} {pos : Pos} {go gi : Env → W D} (hu : X.A.units + 1 < cLine) (ho : E G X Wx o go) (hi : E G X Wx i gi) (hs : NoSl i := by intro _ _; rfl) : E G X Wx (.Subscript o i pos) (fun ρ => bnd (go ρ) fun x => bnd (gi ρ) fun y => dgetD x y) :=
  two_parts (r := fun x y H Q => ∃ a v, x = .ref a ∧ DGet H a y (some v) ∧ Q v H) (by
    intro c σ ρ H n P PX d e v w Q I rd re h hg hx
    cases d with
    | dic kvs =>
      obtain ⟨a, kws, rfl, ⟨_, r1⟩, r2⟩ := rd
      obtain ⟨kk, ek, h⟩ := optW_inv (show optW (keyD e) n (fun kk k => optW (valD kvs kk) k P PX) PX from h)
      obtain ⟨x, ex, h⟩ := optW_inv h
      obtain rfl := keyD_rep ek re
      rcases RepK.find kk r2 with ⟨z, _⟩ | ⟨y, v, z1, z2, r3⟩
      · rw [z] at ex; cases ex
      · rw [z1] at ex
        cases ex
        exact ⟨a, v, rfl, z2 ▸ .inl ⟨kws, kk, r1, rfl, rfl⟩, hg.at h I r3⟩
    | _ => exact False.elim h) ho hi (pe_dget hu ho hi hs)
/-- list(d) -/
def keysD : D → W (List D)
  | .dic kvs => grd (kvs.length ≤ sizeLine ∧ ∀ kv ∈ kvs, ∀ s, kv.1 = .inr s → s.length ≤ sizeLine) (ret (kvs.map fun kv => keyV kv.1))
  | _ => stuck
theorem o_listK {p pos : Pos} {e : Expr} {g : Env → W D} (hc : X.calm = true) (hm : X.mg "list" = none) (h : E G X Wx e g) (hg : Gl X "list" := by rfl) (he : starEach [e] X.env = (false, eval e X.env) :: starEach [] X.env := by rfl) :
    EO G X Wx (.Call (.Name "list" p) [e] [] pos) (fun ρ => bnd (g ρ) keysD) :=
  o_t1 hm PyProof.Rows.boot_list (call_listD hc) (r := fun x H Q => ∃ (a : Addr) (kvs : List (Key × V)), x = .ref a ∧ Rd H a (.dK kvs) ∧ ∀ p, H p = none → Q (.ref p) (upd H p (.lst (kvs.map fun kv => kV kv.1)))) (by
    intro c σ ρ H n P PX d v Q I r q hg hx
    cases d with
    | dic kvs =>
      obtain ⟨a, kws, rfl, ⟨_, r1⟩, r2⟩ := r
      obtain ⟨⟨z1, z2⟩, q⟩ := q
      exact ⟨a, kws, rfl, r1, fun b hb => hg.new q I hb (by rw [List.length_map]; exact z1) (RepK.keys r2 z2)⟩
    | _ => exact False.elim q) (fun x H Q ⟨a, kvs, e, r, q⟩ => ⟨a, kvs, by rw [e], r, q⟩) h hg (by decide) (by decide) he (by rfl)
/-! ### sorted texts -/
def leS (a b : Str) : Bool := !ltCps b.cps.toList a.cps.toList
def sortT (xs : List Str) : List Str := xs.mergeSort leS
theorem ltCps_iff : ∀ a b : List Nat, ltCps a b = true ↔ a < b
  | [], [] => by simp [ltCps]
  | [], _ :: _ => by simp [ltCps]
  | _ :: _, [] => by simp [ltCps]
  | x :: xs, y :: ys => by
    have ih := ltCps_iff xs ys
    rw [List.cons_lt_cons_iff]
    unfold ltCps
    simp only [Bool.or_eq_true, Bool.and_eq_true, decide_eq_true_eq, beq_iff_eq, ih]
theorem leS_iff (a b : Str) : leS a b = true ↔ ¬ b.cps.toList < a.cps.toList := by
  unfold leS
  rw [Bool.not_eq_true', ← Bool.not_eq_true, ltCps_iff]
theorem leS_trans (a b c : Str) (h1 : leS a b = true) (h2 : leS b c = true) : leS a c = true := by
  rw [leS_iff] at *
  exact List.le_trans (α := Nat) h1 h2
theorem leS_total (a b : Str) : (leS a b || leS b a) = true := by
  rw [Bool.or_eq_true, leS_iff, leS_iff]
  exact List.le_total (α := Nat) a.cps.toList b.cps.toList
theorem str_ext {a b : Str} (h : a.cps.toList = b.cps.toList) : a = b := by
  cases a; cases b
  congr 1
  exact Array.toList_inj.mp h
theorem leS_anti (a b : Str) (h1 : leS a b = true) (h2 : leS b a = true) : a = b := by
  rw [leS_iff] at *
  exact str_ext (List.le_antisymm (α := Nat) h1 h2)
theorem risingS_pw : ∀ (l : List Str) (p : Str), risingS p l = true → (p :: l).Pairwise fun a b => leS a b = true
  | [], p, _ => List.pairwise_cons.mpr ⟨fun _ h => (nomatch h), List.Pairwise.nil⟩
  | x :: r, p, h => by
    have h : (!ltCps x.cps.toList p.cps.toList && risingS x r) = true := h
    rw [Bool.and_eq_true] at h
    have ih := risingS_pw r x h.2
    refine List.pairwise_cons.mpr ⟨fun y hy => ?_, ih⟩
    rcases List.mem_cons.mp hy with rfl | hy
    · exact h.1
    · exact leS_trans p x y h.1 ((List.pairwise_cons.mp ih).1 y hy)
theorem sortedS_pw (l : List Str) (h : sortedS l = true) : l.Pairwise fun a b => leS a b = true := by
  cases l with
  | nil => exact List.Pairwise.nil
  | cons x r => exact risingS_pw r x h
theorem sortT_unique {xs ys : List Str} (hp : ys.Perm xs) (hs : sortedS ys = true) : ys = sortT xs := by
  refine (hp.trans (List.mergeSort_perm xs leS).symm).eq_of_pairwise (fun a b _ _ h1 h2 => leS_anti a b h1 h2) (sortedS_pw ys hs) ?_
  exact List.pairwise_mergeSort leS_trans leS_total xs
/-- sorted(e) of texts -/
def sortW : D → W (List D)
  | .lst xs => match txts xs with
    | some ss => grd (ss.length < 64) (ret ((sortT ss).map .str))
    | none => stuck
  | _ => stuck
theorem txts_len {K : PySem.W.Frag} {S : Addr → Prop} {H : Hp} : ∀ {xs : List D} {ss : List Str} {vs : List V}, txts xs = some ss → Reps K S H xs vs → ss.length = xs.length ∧ ∀ s ∈ ss, s.length ≤ sizeLine
  | [], _, _, e, h => by cases e; exact ⟨rfl, fun _ h => nomatch h⟩
  | x :: xs, _, _, e, h => by
    obtain ⟨v, ws, rfl, r, q⟩ := h
    cases x with
    | str s =>
      have e : (txts xs).map (s :: ·) = some _ := e
      cases e1 : txts xs with
      | none => rw [e1] at e; cases e
      | some ts =>
        rw [e1] at e
        cases e
        obtain ⟨h1, h2⟩ := txts_len e1 q
        refine ⟨by rw [List.length_cons, List.length_cons, h1], fun t ht => ?_⟩
        rcases List.mem_cons.mp ht with rfl | ht
        · exact r.2
        · exact h2 t ht
    | _ => cases e
theorem reps_strs {K : PySem.W.Frag} {S : Addr → Prop} {H : Hp} : ∀ {ss : List Str}, (∀ s ∈ ss, s.length ≤ sizeLine) → Reps K S H (ss.map .str) (ss.map .str)
  | [], _ => Reps.nil
  | s :: ss, h => Reps.cons ⟨rfl, h s List.mem_cons_self⟩ (reps_strs fun t ht => h t (List.mem_cons_of_mem _ ht))
theorem o_b1 {x : Str} {p pos : Pos} {id : String} {e : Expr} {r : V → Hp → VK → Prop} {r' : List V → Hp → VK → Prop} {g : Env → W D} {f : D → W (List D)} (hm : X.mg x = none) (hv : bootBuiltins x = some (.builtin id)) (o : CallR X (.builtin id) r') (v : V1O G X Wx f r) (hr : ∀ x H Q, r x H Q → r' [x] H Q) (h : E G X Wx e g)
    (hg : Gl X x) (hn : x ≠ "__name__") (hdb : (x == ("__debug__" : Str)) = false) (he : starEach [e] X.env = (false, eval e X.env) :: starEach [] X.env) (hpl : (backTo pos (starEach [] X.env)).any (·.1) = false) : EO G X Wx (.Call (.Name x p) [e] [] pos) (fun ρ => bnd (g ρ) f) :=
  weakE (pe_callB o hg hm hv (a_cons h a_nil he) hn hdb he hpl) fun σ H Q ⟨c, ρ, n, P, PX, I, q, hg, hx⟩ => tAr.bnd (f := fun ds => match ds with | [d] => f d | _ => stuck) I q hx fun ds k vs S' H' p g I' hx' rs => by
    cases ds with
    | nil => exact False.elim p
    | cons d ds =>
      cases ds with
      | cons _ _ => exact False.elim p
      | nil =>
        obtain ⟨u, rfl, r1⟩ := rs.one_inv
        exact hr u H' Q (v _ σ ρ H' k P PX d u Q I' r1 p (hg.grow g) hx')
theorem o_sortS {p pos : Pos} {e : Expr} {g : Env → W D} (hm : X.mg "sorted" = none) (h : E G X Wx e g) (hg : Gl X "sorted" := by rfl) (he : starEach [e] X.env = (false, eval e X.env) :: starEach [] X.env := by rfl) :
    EO G X Wx (.Call (.Name "sorted" p) [e] [] pos) (fun ρ => bnd (g ρ) sortW) :=
  o_b1 hm (by decide +kernel) cr_sortedS (r := fun x H Q => ∃ (a : Addr) (xs : List Str), x = .ref a ∧ SqL X.K H a (xs.map V.str) ∧ xs.length < 64 ∧ ∀ (ys : List Str) (p : Addr), ys.Perm xs → sortedS ys = true → H p = none → Q (.ref p) (upd H p (.lst (ys.map V.str)))) (by
    intro c σ ρ H n P PX d v Q I r q hg hx
    cases d with
    | lst xs =>
      obtain ⟨a, vs, rfl, r1, z, q1⟩ := r
      have q : (match txts xs with | some ss => grd (ss.length < 64) (ret ((sortT ss).map .str)) | none => stuck : W (List D)) n P PX := q
      cases e1 : txts xs with
      | none => rw [e1] at q; exact False.elim q
      | some ss =>
        rw [e1] at q
        obtain ⟨h64, q⟩ := q
        obtain rfl := txts_vals e1 q1
        obtain ⟨hl, hz⟩ := txts_len e1 q1
        refine ⟨a, ss, rfl, r1.sq, h64, fun ys b hp hs hb => ?_⟩
        obtain rfl := sortT_unique hp hs
        have hz2 : ∀ s ∈ sortT ss, s.length ≤ sizeLine := fun s hs => hz s (hp.mem_iff.mp hs)
        have hlen : ((sortT ss).map D.str).length ≤ sizeLine := by rw [List.length_map, hp.length_eq, hl]; exact z
        exact hg.new q I hb hlen (reps_strs hz2)
    | _ => exact False.elim q) (fun x H Q ⟨a, xs, e, h⟩ => ⟨a, xs, by rw [e], h⟩) h hg (by decide) (by decide) he (by rfl)
/-! ### xs * k -/
theorem u1 {A : Around} {k : Nat} (r : Room k A) : A.units + 1 < cLine := by
  have := u64 r
  omega
end
end PL

/-! The plain side of mirrors by values: rows for simp, what draws give, sizes of what is shown. -/
namespace PL
open PySem PySem.Spec L2
section
variable {α β γ J : Type}
theorem Gen.bind {m : W α} {f : α → W β} {c d : Nat} {R : α → Prop} {Q : β → Prop} (h : Gen m c R) (k : ∀ a, R a → Gen (f a) d Q) : Gen (PL.bnd m f) (c + d) Q := Gen.bnd h k
theorem Gen.dr {b : Int} {f : Int → W β} {c : Nat} {Q : β → Prop} (h0 : 0 < b) (h1 : b < 1073741824) (k : ∀ r : Int, 0 ≤ r → r < b → Gen (f r) c Q) : Gen (PL.bnd (drw b) f) (1 + c) Q := fun n P PX hn kk =>
  ⟨by omega, h0, h1, fun r j q1 q2 q3 q4 => k r q1 q2 ⟨j, n.μ⟩ P PX (by show j + c ≤ _; omega) fun a i hq h3 h4 => kk a i hq (Nat.le_trans q3 h3) (by have h4 : i ≤ j + c := h4; omega)⟩
theorem Gen.dr0 {b : Int} {c : Nat} {Q : Int → Prop} (h0 : 0 < b) (h1 : b < 1073741824) (k : ∀ r : Int, 0 ≤ r → r < b → Q r) : Gen (drw b) 1 Q := fun n P PX hn kk =>
  ⟨by omega, h0, h1, fun r j q1 q2 q3 q4 => kk r j (k r q1 q2) q3 (by omega)⟩
theorem Gen.cond {b : Bool} {m m' : W α} {c d : Nat} {Q : α → Prop} (h1 : b = true → Gen m c Q) (h2 : b = false → Gen m' d Q) : Gen (if b = true then m else m') (Nat.max c d) Q := by
  cases b with
  | true => exact (h1 rfl).up (Nat.le_max_left _ _)
  | false => exact (h2 rfl).up (Nat.le_max_right _ _)
theorem Gen.eqm {m m' : W α} {c : Nat} {Q : α → Prop} (e : m = m') (h : Gen m' c Q) : Gen m c Q := e ▸ h
theorem Gen.is {m : W α} {a : α} {Q : α → Prop} (e : m = PL.ret a) (q : Q a) : Gen m 0 Q := e ▸ Gen.ret q
theorem room_pos {xs : List D} {m : W α} (h : xs.length < 1000000) : roomL xs m = m := grd_pos (by rw [sizeLine_eq]; omega) m
theorem fewN_pos {n : Nat} {m : W α} (h : n ≤ 1000000) : fewN n m = m := grd_pos (by rw [sizeLine_eq]; omega) m
theorem Gen.compP {f : α → W (Option D)} {c : Nat} {Q : D → Prop} : ∀ {xs : List α}, (∀ x ∈ xs, Gen (f x) c fun o => ∀ y, o = some y → Q y) → Gen (PL.compP f xs) (c * xs.length) fun ys => ys.length ≤ xs.length ∧ ∀ y ∈ ys, Q y
  | [], _ => Gen.ret ⟨Nat.le_refl _, fun _ h => nomatch h⟩
  | x :: xs, h => by
    have ih := Gen.compP (xs := xs) fun y hy => h y (List.mem_cons_of_mem _ hy)
    refine (Gen.bnd (h x List.mem_cons_self) (d := c * xs.length) fun o ho => ?_).up (by rw [List.length_cons, Nat.mul_add]; omega)
    cases o with
    | none => exact ih.to fun ys q => ⟨Nat.le_succ_of_le q.1, q.2⟩
    | some y =>
      refine (Gen.bnd (d := 0) ih fun (ys : List D) q => Gen.ret (a := y :: ys) (Q := fun ys : List D => ys.length ≤ (x :: xs).length ∧ ∀ y ∈ ys, Q y) ⟨Nat.succ_le_succ q.1, fun z hz => ?_⟩).up (Nat.le_refl _)
      rcases List.mem_cons.mp hz with rfl | hz
      · exact ho z rfl
      · exact q.2 z hz
theorem Gen.compM {f : α → W D} {c : Nat} {Q : D → Prop} : ∀ {xs : List α}, (∀ x ∈ xs, Gen (f x) c Q) → Gen (PL.compP (fun x => PL.bnd (f x) fun y => PL.ret (some y)) xs) (c * xs.length) fun ys => ys.length = xs.length ∧ ∀ y ∈ ys, Q y
  | [], _ => Gen.ret ⟨rfl, fun _ h => nomatch h⟩
  | x :: xs, h => by
    have ih := Gen.compM (xs := xs) fun y hy => h y (List.mem_cons_of_mem _ hy)
    show Gen (PL.bnd (PL.bnd (f x) _) _) _ _
    rw [bnd_bnd]
    refine (Gen.bnd (h x List.mem_cons_self) (d := c * xs.length) fun y hy => ?_).up (by rw [List.length_cons, Nat.mul_add]; omega)
    rw [bnd_ret]
    refine (Gen.bnd (d := 0) ih fun ys q => Gen.ret (Q := fun ys : List D => ys.length = (x :: xs).length ∧ ∀ y ∈ ys, Q y) ⟨by rw [List.length_cons, q.1, List.length_cons], fun z hz => ?_⟩).up (Nat.le_refl _)
    rcases List.mem_cons.mp hz with rfl | hz
    · exact hy
    · exact q.2 z hz
theorem Gen.map {f : α → W D} {xs : List α} {c : Nat} {Q : D → Prop} (n : Nat) (hn : xs.length ≤ n) (h : ∀ x ∈ xs, Gen (f x) c Q) (hz : n ≤ 1000000 := by decide) : Gen (mapP f xs) (c * n) fun ys => ys.length = xs.length ∧ ∀ y ∈ ys, Q y := by
  unfold mapP
  rw [fewN_pos (by omega)]
  exact Gen.quiet ((Gen.compM h).up (Nat.mul_le_mul_left _ hn))
/-- a loop with an invariant that may count the turns -/
theorem Gen.forI {bd : α → J → W (Step J γ)} {k : J → W γ} {c d n : Nat} {I : Nat → J → Prop} {Q : γ → Prop} : ∀ {xs : List α} {i : Nat} {j : J}, xs.length + i ≤ n → (∀ x ∈ xs, ∀ i j, i < n → I i j → Gen (bd x j) c fun o => match o with | .go j' => I (i + 1) j' | .bk j' => Gen (k j') d Q | .out g => Q g) →
    (∀ j, I (xs.length + i) j → Gen (k j) d Q) → I i j → Gen (forT bd k xs j) (c * xs.length + d) Q
  | [], i, j, _, _, hk, h0 => (hk j (by rw [List.length_nil, Nat.zero_add]; exact h0)).up (by omega)
  | x :: xs, i, j, hn, hb, hk, h0 => by
    rw [List.length_cons] at hn
    refine (Gen.bnd (hb x List.mem_cons_self i j (by omega) h0) (d := c * xs.length + d) fun o q => ?_).up (by rw [List.length_cons, Nat.mul_add]; omega)
    cases o with
    | go j' => exact Gen.forI (i := i + 1) (by omega) (fun y hy => hb y (List.mem_cons_of_mem _ hy)) (fun j hj => hk j (by rw [List.length_cons, show xs.length + 1 + i = xs.length + (i + 1) by omega]; exact hj)) q
    | bk j' => exact Gen.up (show Gen (k j') d Q from q) (by omega)
    | out g => exact (Gen.ret (show Q g from q)).up (Nat.zero_le _)
theorem Gen.forS {bd : α → J → W (Step J γ)} {k : J → W γ} {c d : Nat} {xs : List α} {j : J} (n : Nat) (I : J → Prop) {Q : γ → Prop} (hn : xs.length ≤ n) (h0 : I j) (hb : ∀ x ∈ xs, ∀ j, I j → Gen (bd x j) c fun o => match o with | .go j' => I j' | .bk j' => Gen (k j') d Q | .out g => Q g)
    (hk : ∀ j, I j → Gen (k j) d Q) : Gen (forT bd k xs j) (c * n + d) Q :=
  (Gen.forI (I := fun _ => I) (i := 0) (n := n) (by omega) (fun x hx _ j _ => hb x hx j) (fun j => hk j) h0).up (by have := Nat.mul_le_mul_left c hn; omega)
/-- [f(x) for x in xs], f known -/
theorem compP_ret {f : α → W (Option D)} {g : α → Option D} : ∀ {xs : List α}, (∀ x ∈ xs, f x = PL.ret (g x)) → PL.compP f xs = PL.ret (xs.filterMap g)
  | [], _ => rfl
  | x :: xs, h => by
    have ih := compP_ret (xs := xs) fun y hy => h y (List.mem_cons_of_mem _ hy)
    show PL.bnd (f x) _ = _
    rw [h x List.mem_cons_self, bnd_ret, List.filterMap_cons]
    cases q : g x with
    | none => exact ih
    | some y =>
      show PL.bnd (PL.compP f xs) _ = _
      rw [ih]
      rfl
theorem mapP_ret {f : α → W D} {g : α → D} {xs : List α} (hn : xs.length ≤ 1000000) (h : ∀ x ∈ xs, f x = PL.ret (g x)) : mapP f xs = PL.ret (xs.map g) := by
  unfold mapP
  rw [fewN_pos hn, compP_ret (g := fun x => some (g x)) fun x hx => by rw [h x hx]; rfl, List.filterMap_eq_map']
  rfl
theorem selP_ret {t : α → W Bool} {f : α → W D} {p : α → Bool} {g : α → D} {xs : List α} (hn : xs.length ≤ 1000000) (ht : ∀ x ∈ xs, t x = PL.ret (p x)) (h : ∀ x ∈ xs, p x = true → f x = PL.ret (g x)) : selP t f xs = PL.ret ((xs.filter p).map g) := by
  unfold selP
  have e : ∀ ys : List α, ys.filterMap (fun x => if p x = true then some (g x) else none) = (ys.filter p).map g := fun ys => by
    induction ys with
    | nil => rfl
    | cons y ys ih =>
      rw [List.filterMap_cons]
      cases q : p y with
      | true => simp [q, ih]
      | false => simp [q, ih]
  rw [fewN_pos hn, compP_ret (g := fun x => if p x = true then some (g x) else none) fun x hx => by
    rw [ht x hx, bnd_ret]
    cases q : p x with
    | true => rw [if_pos rfl, h x hx q]; rfl
    | false => rfl, e]
  rfl
theorem rngZ_len (lo : Int) (n : Nat) : (rngZ lo n).length = n := by unfold rngZ; rw [List.length_map, List.length_range]
theorem rngZ_mem {lo : Int} {n : Nat} {x : Int} (h : x ∈ rngZ lo n) : lo ≤ x ∧ x < lo + n := by
  unfold rngZ at h
  obtain ⟨i, h1, h2⟩ := List.mem_map.mp h
  have := List.mem_range.mp h1
  omega
theorem rngI_ret {i : Int} (h : -1000000 ≤ i ∧ i ≤ 1000000) : rngI i = PL.ret (rngZ 0 i.toNat) := grd_pos (by unfold inR; omega) _
end
/-! ### rows -/
theorem eqB_str (a b : Str) : eqB (.str a) (.str b) = PL.ret (a == b) := by
  unfold eqB
  rw [grd_pos (.inr (.inr rfl))]
  simp [py, PyData.eqv]
theorem neB_str (a b : Str) : neB (.str a) (.str b) = PL.ret (!(a == b)) := by
  unfold neB
  rw [grd_pos (.inr (.inr rfl))]
  simp [py, PyData.eqv]
theorem eqB_nil {xs : List D} : eqB (.lst xs) (.lst []) = PL.ret xs.isEmpty := by
  unfold eqB
  rw [grd_pos (by cases xs <;> first | exact .inl ⟨rfl, rfl⟩ | exact .inr (.inl rfl))]
  cases xs <;> simp [py, pys, PyData.eqv, PyData.eqvAll]
theorem okD_nil : okD (.tup []) = true := by decide +kernel
theorem okD_lay {x : D} (h : okD x = true) : (py x).canLay0 = true := by
  unfold okD SeqAt.shaped at h
  rw [Bool.and_eq_true] at h
  exact h.1
theorem eqB_same {x : D} (h : okD x = true) : eqB x x = PL.ret true := by
  unfold eqB
  rw [grd_pos (.inl ⟨h, h⟩), SeqAt.eqv_refl _ (okD_lay h)]
theorem neB_same {x : D} (h : okD x = true) : neB x x = PL.ret false := by
  unfold neB
  rw [grd_pos (.inl ⟨h, h⟩), SeqAt.eqv_refl _ (okD_lay h)]
  rfl
theorem addL_ok {xs ys : List D} (h : xs.length + ys.length ≤ 1000000) : addL xs ys = PL.ret (xs ++ ys) := grd_pos (by rw [sizeLine_eq]; omega) _
theorem mulI_ok {i j : Int} (h : -1000000000000 ≤ i ∧ i ≤ 1000000000000) : mulI i j = PL.ret (i * j) := grd_pos (.inl ⟨by omega, by omega⟩) _
theorem ixL {xs : List D} {i : Nat} (h : i < xs.length) : ixD (.lst xs) (.int i) = PL.ret xs[i] := ix_l (atI_nat (List.getElem?_eq_getElem h))
theorem ixLZ {xs : List D} {i : Int} (h0 : 0 ≤ i) (h : i < xs.length) : ∃ x ∈ xs, ixD (.lst xs) (.int i) = PL.ret x := by
  obtain ⟨n, rfl⟩ := Int.eq_ofNat_of_zero_le h0
  have hn : n < xs.length := by omega
  exact ⟨xs[n], List.getElem_mem hn, ixL hn⟩
/-- one of several, drawn -/
theorem Gen.pickL {β : Type} {xs : List D} {i : Int} {f : D → W β} {c : Nat} {Q : β → Prop} (h0 : 0 ≤ i) (h : i < xs.length) (k : ∀ y ∈ xs, Gen (f y) c Q) : Gen (PL.bnd (ixD (.lst xs) (.int i)) f) c Q := by
  obtain ⟨x, hx, e⟩ := ixLZ h0 h
  rw [e, bnd_ret]
  exact k x hx
theorem Gen.pickL0 {xs : List D} {i : Int} {Q : D → Prop} (h0 : 0 ≤ i) (h : i < xs.length) (k : ∀ y ∈ xs, Q y) : Gen (ixD (.lst xs) (.int i)) 0 Q := by
  obtain ⟨x, hx, e⟩ := ixLZ h0 h
  rw [e]
  exact Gen.ret (k x hx)
/-! ### sizes -/
def Sz (B k : Nat) (x : D) : Prop := Ok x ∧ (py x).bulk ≤ B ∧ (py x).depth ≤ k
theorem Sz.up {B B' k k' : Nat} {x : D} (h : Sz B k x) (h1 : B ≤ B') (h2 : k ≤ k') : Sz B' k' x := ⟨h.1, Nat.le_trans h.2.1 h1, Nat.le_trans h.2.2 h2⟩
def bulks (xs : List D) : Nat := PyData.bulkAll (pys xs)
theorem depths_le {k : Nat} {xs : List D} : PyData.depthAll (pys xs) ≤ k ↔ ∀ x ∈ xs, (py x).depth ≤ k := by
  induction xs with
  | nil => simp [pys, PyData.depthAll]
  | cons x xs ih => simp [pys, PyData.depthAll, Nat.max_le, ih]
/-- the parts of a tuple or list -/
def Parts (k : Nat) (xs : List D) : Prop := ∀ x ∈ xs, Ok x ∧ (py x).depth ≤ k
theorem Parts.up {j k : Nat} {xs : List D} (h : Parts j xs) (hk : j ≤ k) : Parts k xs := fun x hx => ⟨(h x hx).1, Nat.le_trans (h x hx).2 hk⟩
theorem Parts.app {k : Nat} {xs ys : List D} (h : Parts k xs) (h2 : Parts k ys) : Parts k (xs ++ ys) := fun x hx => (List.mem_append.mp hx).elim (h x) (h2 x)
theorem Parts.take {k : Nat} {xs : List D} (h : Parts k xs) (r : Nat) : Parts k (xs.take r) := fun x hx => h x (List.mem_of_mem_take hx)
theorem Parts.drop {k : Nat} {xs : List D} (h : Parts k xs) (r : Nat) : Parts k (xs.drop r) := fun x hx => h x (List.mem_of_mem_drop hx)
theorem Parts.nil {k : Nat} : Parts k [] := fun _ h => nomatch h
theorem Parts.cons {k : Nat} {x : D} {xs : List D} (h : Ok x ∧ (py x).depth ≤ k) (h2 : Parts k xs) : Parts k (x :: xs) := fun y hy => (List.mem_cons.mp hy).elim (fun e => e ▸ h) (h2 y)
theorem Sz.pt {B k : Nat} {x : D} (h : Sz B k x) : Ok x ∧ (py x).depth ≤ k := ⟨h.1, h.2.2⟩
theorem Sz.tup {B k : Nat} {xs : List D} (h : Parts k xs) (hb : bulks xs ≤ B) : Sz B (k + 1) (.tup xs) :=
  ⟨.tup fun x hx => (h x hx).1, by simpa [py, PyData.bulk, bulks] using hb, by simp only [py, PyData.depth]; exact Nat.succ_le_succ (depths_le.mpr fun x hx => (h x hx).2)⟩
theorem Sz.lst {B k : Nat} {xs : List D} (h : Parts k xs) (hb : bulks xs ≤ B) : Sz B (k + 1) (.lst xs) :=
  ⟨.lst fun x hx => (h x hx).1, by simpa [py, PyData.bulk, bulks] using hb, by simp only [py, PyData.depth]; exact Nat.succ_le_succ (depths_le.mpr fun x hx => (h x hx).2)⟩
theorem Sz.str {s : Str} {B k : Nat} (h : okD (.str s) = true) (h2 : s.length ≤ B) : Sz B k (.str s) := ⟨.str h, by simp only [py, PyData.bulk]; exact h2, by simp [py, PyData.depth]⟩
theorem Sz.int {i : Int} {B k : Nat} (h : i.natAbs < 10 ^ 61) : Sz B k (.int i) := ⟨.int h, by simp [py, PyData.bulk], by simp [py, PyData.depth]⟩
theorem Sz.bl {b : Bool} {B k : Nat} : Sz B k (.bl b) := ⟨.bl b, by simp [py, PyData.bulk], by simp [py, PyData.depth]⟩
theorem Sz.non {B k : Nat} : Sz B k .non := ⟨.non, by simp [py, PyData.bulk], by simp [py, PyData.depth]⟩
end PL

/-! Words, values, stores, states as data. -/
namespace PL
open PySem PySem.Spec L2
def lower (k : Nat) : Bool := decide (97 ≤ k ∧ k ≤ 122)
def wordB : D → Bool
  | .str s => decide (1 ≤ (s.length : Int)) && decide ((s.length : Int) ≤ 8) && s.cps.toList.all lower
  | _ => false
theorem bls_map {α : Type} (f : α → Bool) : ∀ xs : List α, bls (xs.map fun k => D.bl (f k)) = some (xs.map f)
  | [] => rfl
  | x :: xs => by
    show (bls (xs.map _)).map _ = _
    rw [bls_map f xs]
    rfl
theorem all_bls {α : Type} (f : α → Bool) (xs : List α) : allD (.lst (xs.map fun k => D.bl (f k))) = ret (.bl (xs.all f)) := by
  show (match bls (xs.map fun k => D.bl (f k)) with | some bs => PL.ret (D.bl (bs.all id)) | none => stuck : W D) = _
  rw [bls_map]
  congr 2
  induction xs with
  | nil => rfl
  | cons x l ih => simp [List.all_cons]
theorem abc : (Str.ofString "abcdefghijklmnopqrstuvwxyz").cps.toList = [97, 98, 99, 100, 101, 102, 103, 104, 105, 106, 107, 108, 109, 110, 111, 112, 113, 114, 115, 116, 117, 118, 119, 120, 121, 122] := by decide +kernel
theorem letters (k : Nat) : decide (k ∈ (Str.ofString "abcdefghijklmnopqrstuvwxyz").cps.toList) = lower k := by
  rw [abc]
  unfold lower
  apply decide_eq_decide.mpr
  simp only [List.mem_cons, List.not_mem_nil, or_false]
  omega
theorem in_abc (k : Nat) : inStr false (chD k) (.str (Str.ofString "abcdefghijklmnopqrstuvwxyz")) = ret (.bl (lower k)) := by
  show PL.ret (D.bl (decide (k ∈ (Str.ofString "abcdefghijklmnopqrstuvwxyz").cps.toList))) = _
  rw [letters]
theorem short8 {s : Str} (h : (s.length : Int) ≤ 8) : s.cps.toList.length ≤ 1000000 := by
  rw [Array.length_toList]
  have : s.length = s.cps.size := rfl
  omega
def numB : D → Bool
  | .int i => decide (-1000000000000000000 ≤ i) && decide (i ≤ 1000000000000000000)
  | _ => false
/-! ### what is drawn -/
def IsW (d : D) : Prop := ∃ s : Str, d = .str s ∧ wordB (.str s) = true
theorem wordB_signs (ks : List Nat) (h1 : 1 ≤ ks.length) (h2 : ks.length ≤ 8) (h : ∀ k ∈ ks, lower k = true) : wordB (.str ⟨ks.toArray⟩) = true := by
  have e : (Str.mk ks.toArray).length = ks.length := List.size_toArray
  simp only [wordB, Bool.and_eq_true, decide_eq_true_eq, List.all_eq_true, e]
  refine ⟨⟨by omega, by omega⟩, fun k hk => h k hk⟩
theorem IsW.ch {k : Nat} (h : lower k = true) : IsW (chD k) := ⟨⟨#[k]⟩, rfl, wordB_signs [k] (Nat.le_refl _) (by show 1 ≤ 8; decide) fun j hj => by rw [List.mem_singleton.mp hj]; exact h⟩
theorem IsW.ok {d : D} (h : IsW d) {k : Nat} : Sz 8 k d := by
  obtain ⟨s, rfl, h⟩ := h
  simp only [wordB, Bool.and_eq_true, decide_eq_true_eq, List.all_eq_true] at h
  refine Sz.str (okD_small fun k hk => ?_) (by omega)
  have := h.2 k hk
  simp only [lower, decide_eq_true_eq] at this
  omega
def IsN (d : D) : Prop := ∃ i : Int, d = .int i ∧ numB (.int i) = true
theorem IsN.ok {d : D} (h : IsN d) {B k : Nat} : Sz B k d := by
  obtain ⟨i, rfl, h⟩ := h
  simp only [numB, Bool.and_eq_true, decide_eq_true_eq] at h
  refine Sz.int ?_
  have e : (10 : Nat) ^ 61 = 10000000000000000000000000000000000000000000000000000000000000 := by decide
  rw [e]
  omega
/-! ### stores -/
def ltQ (a b : Str) : Bool := decide (a.cps.toList < b.cps.toList)
/-! ### states -/
theorem cut_take (xs : List D) (r : Nat) : cutD xs none (some (r : Int)) = xs.take r := by
  unfold cutD
  rw [HT.sIx_none, HT.sIx_nat, List.drop_zero, Nat.sub_zero]
  by_cases h : r ≤ xs.length
  · rw [Nat.min_eq_left h]
  · rw [Nat.min_eq_right (by omega), List.take_length, List.take_of_length_le (by omega)]
theorem lst_add (xs ys : List D) (h : xs.length + ys.length ≤ 1000000) : addD (.lst xs) (.lst ys) = ret (.lst (xs ++ ys)) := by
  show grd _ _ = _
  exact grd_pos (by rw [sizeLine_eq]; omega) _
theorem tup_add (xs ys : List D) (h : xs.length + ys.length ≤ 1000000) : addD (.tup xs) (.tup ys) = ret (.tup (xs ++ ys)) := by
  show grd _ _ = _
  exact grd_pos (by rw [sizeLine_eq]; omega) _
theorem slD_lst (xs : List D) (lo hi : Option Int) : slD (.lst xs) lo hi = ret (.lst (cutD xs lo hi)) := rfl
theorem slD_tup (xs : List D) (lo hi : Option Int) : slD (.tup xs) lo hi = ret (.tup (cutD xs lo hi)) := rfl
theorem succ_cast (r : Nat) : ((r : Int) + 1) = ((r + 1 : Nat) : Int) := rfl
end PL

/-! Dicts with words as keys, and their pairs in order. -/
namespace PL
open PySem PySem.Spec L2
def keyS : Key → Str
  | .inr s => s
  | .inl _ => Str.ofString ""
def keysS (j : List (Key × D)) : List Str := j.map fun kv => keyS kv.1
/-- words for keys, none twice, values as told -/
def DI (v : D → Bool) (j : List (Key × D)) : Prop := (∀ kv ∈ j, ∃ s, kv.1 = .inr s ∧ wordB (.str s) = true ∧ v kv.2 = true) ∧ (j.map (·.1)).Nodup
theorem DI.nil {v : D → Bool} : DI v [] := ⟨fun _ h => (nomatch h), List.nodup_nil⟩
theorem setK1_keys (k : Key) (x : D) : ∀ j : List (Key × D), (setK1 k x j).map (·.1) = j.map (·.1)
  | [] => rfl
  | (a, y) :: r => by
    unfold setK1
    rw [List.map_cons, List.map_cons, setK1_keys k x r]
    split <;> simp [*]
theorem setK1_mem {k : Key} {x : D} : ∀ {j : List (Key × D)} {kv : Key × D}, kv ∈ setK1 k x j → kv ∈ j ∨ (kv = (k, x) ∧ k ∈ j.map (·.1))
  | [], _, h => nomatch h
  | (a, y) :: r, kv, h => by
    unfold setK1 at h
    rcases List.mem_cons.mp h with h | h
    · by_cases e : a = k
      · rw [if_pos e] at h
        exact .inr ⟨by rw [h, e], by rw [List.map_cons, e]; exact List.mem_cons_self⟩
      · rw [if_neg e] at h
        exact .inl (h ▸ List.mem_cons_self)
    · rcases setK1_mem h with h | ⟨h, h2⟩
      · exact .inl (List.mem_cons_of_mem _ h)
      · exact .inr ⟨h, by rw [List.map_cons]; exact List.mem_cons_of_mem _ h2⟩
theorem putD_has {j : List (Key × D)} {k : Key} {x : D} (h : k ∈ j.map (·.1)) : putD j k x = setK1 k x j := by
  unfold putD
  rw [if_pos, setK1_eq]
  obtain ⟨kv, h1, h2⟩ := List.mem_map.mp h
  exact List.any_eq_true.mpr ⟨kv, h1, decide_eq_true h2⟩
theorem putD_not {j : List (Key × D)} {k : Key} {x : D} (h : k ∉ j.map (·.1)) : putD j k x = j ++ [(k, x)] := by
  unfold putD
  rw [if_neg]
  intro q
  obtain ⟨kv, h1, h2⟩ := List.any_eq_true.mp q
  exact h (List.mem_map.mpr ⟨kv, h1, of_decide_eq_true h2⟩)
theorem putD_len (j : List (Key × D)) (k : Key) (x : D) : (putD j k x).length ≤ j.length + 1 := by
  by_cases h : k ∈ j.map (·.1)
  · rw [putD_has h]
    have := congrArg List.length (setK1_keys k x j)
    simp only [List.length_map] at this
    omega
  · rw [putD_not h, List.length_append]
    exact Nat.le_refl _
theorem DI.put {v : D → Bool} {j : List (Key × D)} {s : Str} {x : D} (h : DI v j) (hs : wordB (.str s) = true) (hx : v x = true) : DI v (putD j (.inr s) x) := by
  by_cases q : Sum.inr s ∈ j.map (·.1)
  · rw [putD_has q]
    refine ⟨fun kv hk => ?_, by rw [setK1_keys]; exact h.2⟩
    rcases setK1_mem hk with hk | ⟨rfl, _⟩
    · exact h.1 kv hk
    · exact ⟨s, rfl, hs, hx⟩
  · rw [putD_not q]
    refine ⟨fun kv hk => ?_, ?_⟩
    · rcases List.mem_append.mp hk with hk | hk
      · exact h.1 kv hk
      · rw [List.mem_singleton.mp hk]
        exact ⟨s, rfl, hs, hx⟩
    · rw [List.map_append]
      refine List.nodup_append.mpr ⟨h.2, by simp, fun a ha b hb => ?_⟩
      intro e
      simp at hb
      rw [e, hb] at ha
      exact q ha
theorem DI.mono {v w : D → Bool} {j : List (Key × D)} (h : DI v j) (hw : ∀ x, v x = true → w x = true) : DI w j :=
  ⟨fun kv hk => by obtain ⟨s, a, b, c⟩ := h.1 kv hk; exact ⟨s, a, b, hw _ c⟩, h.2⟩
theorem word_len {s : Str} (h : wordB (.str s) = true) : s.length ≤ 8 := by
  simp only [wordB, Bool.and_eq_true, decide_eq_true_eq] at h
  omega
theorem putW_ok {j : List (Key × D)} {s : Str} {x : D} (h : j.length < 1000000) : putW j (.str s) x = ret (putD j (.inr s) x) := grd_pos (by rw [sizeLine_eq]; omega) _
theorem keysD_ok {v : D → Bool} {j : List (Key × D)} (h : DI v j) (hl : j.length ≤ 1000000) : keysD (.dic j) = ret ((keysS j).map .str) := by
  have e : (j.map fun kv => keyV kv.1) = (keysS j).map .str := by
    unfold keysS
    rw [List.map_map]
    refine List.map_congr_left fun kv hk => ?_
    obtain ⟨s, a, _⟩ := h.1 kv hk
    simp [a, keyV, keyS]
  show grd _ (ret (j.map fun kv => keyV kv.1)) = _
  rw [e]
  refine grd_pos ⟨by rw [sizeLine_eq]; omega, fun kv hk t et => ?_⟩ _
  obtain ⟨s, a, b, _⟩ := h.1 kv hk
  rw [a] at et
  cases et
  have := word_len b
  rw [sizeLine_eq]
  omega
theorem txts_strs : ∀ ss : List Str, txts (ss.map .str) = some ss
  | [] => rfl
  | s :: ss => by
    show (txts (ss.map _)).map _ = _
    rw [txts_strs ss]
    rfl
theorem sortW_ok {ss : List Str} (h : ss.length < 64) : sortW (.lst (ss.map .str)) = ret ((sortT ss).map .str) := by
  show (match txts (ss.map .str) with | some ss => grd (ss.length < 64) (ret ((sortT ss).map .str)) | none => stuck : W (List D)) = _
  rw [txts_strs]
  exact grd_pos h _
theorem keysS_nodup {v : D → Bool} {j : List (Key × D)} (h : DI v j) : (keysS j).Nodup := by
  have e : (keysS j).map Sum.inr = j.map (fun kv => kv.1) := by
    unfold keysS
    rw [List.map_map]
    refine List.map_congr_left fun kv hk => ?_
    obtain ⟨s, a, _⟩ := h.1 kv hk
    simp [a, keyS]
  have q := h.2
  rw [← e] at q
  exact List.Pairwise.imp (fun {a b} h e => h (congrArg Sum.inr e)) (List.pairwise_map.mp q)
theorem keysS_word {v : D → Bool} {j : List (Key × D)} (h : DI v j) {s : Str} (hs : s ∈ keysS j) : wordB (.str s) = true := by
  obtain ⟨kv, hk, rfl⟩ := List.mem_map.mp hs
  obtain ⟨s, a, b, _⟩ := h.1 kv hk
  rw [a]
  exact b
theorem valD_some {v : D → Bool} {j : List (Key × D)} (h : DI v j) {s : Str} (hs : s ∈ keysS j) : ∃ x, valD j (.inr s) = some x ∧ v x = true := by
  have q : (j.find? fun kv => decide (kv.1 = .inr s)).isSome := by
    rw [List.find?_isSome]
    obtain ⟨kv, hk, e⟩ := List.mem_map.mp hs
    obtain ⟨t, a, _⟩ := h.1 kv hk
    refine ⟨kv, hk, decide_eq_true ?_⟩
    rw [a] at e ⊢
    exact congrArg Sum.inr e
  obtain ⟨kv, e⟩ := Option.isSome_iff_exists.mp q
  refine ⟨kv.2, by unfold valD; rw [e]; rfl, ?_⟩
  obtain ⟨_, _, _, c⟩ := h.1 kv (List.mem_of_find?_eq_some e)
  exact c
def valS (j : List (Key × D)) (s : Str) : D := (valD j (.inr s)).getD .non
theorem dgetD_ok {v : D → Bool} {j : List (Key × D)} (h : DI v j) {s : Str} (hs : s ∈ keysS j) : dgetD (.dic j) (.str s) = ret (valS j s) := by
  obtain ⟨x, e, _⟩ := valD_some h hs
  show bnd (ret (Sum.inr s)) (fun kk => optW (valD j kk)) = _
  rw [bnd_ret, e]
  unfold valS
  rw [e]
  rfl
/-- a dict's pairs, by their keys in order -/
def pairsOf (j : List (Key × D)) : List D := (sortT (keysS j)).map fun s => .tup [.str s, valS j s]
theorem sortT_perm (ss : List Str) : (sortT ss).Perm ss := List.mergeSort_perm ss leS
theorem sortT_mem {ss : List Str} {s : Str} : s ∈ sortT ss ↔ s ∈ ss := (sortT_perm ss).mem_iff
theorem sortT_len (ss : List Str) : (sortT ss).length = ss.length := (sortT_perm ss).length_eq
theorem sortT_pw (ss : List Str) : (sortT ss).Pairwise fun a b => leS a b = true := List.pairwise_mergeSort leS_trans leS_total ss
theorem lt_of_le_ne {a b : Str} (h : leS a b = true) (hn : a ≠ b) : ltQ a b = true := by
  unfold ltQ
  refine decide_eq_true ?_
  rw [leS_iff] at h
  refine Classical.byContradiction fun q => hn (leS_anti a b ?_ ?_)
  · rw [leS_iff]; exact h
  · rw [leS_iff]; exact q
theorem sortT_lt {ss : List Str} (h : ss.Nodup) : (sortT ss).Pairwise fun a b => ltQ a b = true := by
  have h1 := sortT_pw ss
  have h2 : (sortT ss).Pairwise (· ≠ ·) := (sortT_perm ss).nodup_iff.mpr h
  exact (List.Pairwise.and h1 h2).imp fun ⟨a, b⟩ => lt_of_le_ne a b
/-- tuple([(key, d[key]) for key in sorted(list(d))]) -/
theorem pairs_ret {v : D → Bool} {j : List (Key × D)} (h : DI v j) (hl : j.length < 64) :
    (bnd (keysD (.dic j)) fun xs => bnd (sortW (.lst xs)) fun xs1 => bnd (mapP (fun label1 => bnd (dgetD (.dic j) label1) fun y2 => ret (.tup [label1, y2])) xs1) fun xs2 => ret (.tup xs2) : W D) = ret (.tup (pairsOf j)) := by
  have hk : (keysS j).length < 64 := by unfold keysS; rw [List.length_map]; exact hl
  rw [keysD_ok h (by omega), bnd_ret, sortW_ok hk, bnd_ret, mapP_ret (g := fun k => match k with | .str s => .tup [.str s, valS j s] | _ => .non) (by rw [List.length_map, sortT_len]; omega) (fun x hx => by
    obtain ⟨s, hs, rfl⟩ := List.mem_map.mp hx
    rw [dgetD_ok h (sortT_mem.mp hs)]
    rfl), bnd_ret, List.map_map]
  rfl
end PL

/-! {**a, **b} and dict(tuple of pairs), on the machine. -/
namespace PL
open PySem PySem.Spec L2
open Sem (wp)
section
variable {prog : Program} {w : World} {K : Type} [DecidableEq K] {knd : KeyKind prog w K} {A : Around} {E : Value → Shared → Prop} {s : Shared}
theorem dictPut_pairs {d : Addr} {kvs : List (K × Value)} {k : K} {key v : Value} {Q : Unit → Shared → Prop} (hkey : knd.is k key = true) (hm : s.heap.DictOf knd d kvs)
    (hQ : ∀ h', h'.DictOf knd d (stored kvs k v) → Heap.SameBut d s.heap h' → Q () { s with heap := h' }) (hsz : kvs.length ≤ sizeLine) :
    wpAny (model prog w) A (dictPut d (knd.hash k) key v) Q E s := by
  obtain ⟨o, es, ep, ho, hc, hd, hk, hp, hn⟩ := hm
  have hes : es.size ≤ sizeLine := by
    have e1 := hp.length
    have e2 : es.toList.length = es.size := by simp
    omega
  unfold dictPut
  refine wpAny_bind (wpAny_dictFind_of hkey ho hd hk ?_)
  have hidx : (es.findIdx? fun e => knd.is k e.key) = kvs.findIdx? fun kv => decide (kv.1 = k) := by
    rw [← hp.findIdx k]; obtain ⟨l⟩ := es; simp
  cases hi : es.findIdx? fun e => knd.is k e.key with
  | some i =>
    refine wpAny_updateDict ho hd (hQ _ ⟨_, _, ep, Heap.get?_update_self _ ho (Obj.isFreed_of_dict (Obj.data_mapDict hd _)),
      hc.mapDict _, Obj.data_mapDict hd _, hk.modify _ _, ?_, ?_⟩ (Heap.SameBut.update ..))
    · rw [stored, if_pos (any_of_findIdx_some (hidx ▸ hi))]
      have hl : (es.toList.findIdx? fun e => knd.is k e.key) = some i := by rw [← hi]; obtain ⟨l⟩ := es; simp
      have := hp.modify hn hl v
      obtain ⟨l⟩ := es
      simpa using this
    · rw [stored, if_pos (any_of_findIdx_some (hidx ▸ hi)), keys_map_store]; exact hn
  | none =>
    have hnot : k ∉ kvs.map (·.1) := not_mem_of_findIdx_none (hidx ▸ hi)
    have hany : ¬ (kvs.any fun kv => decide (kv.1 = k)) = true := by
      rw [List.any_eq_true]; rintro ⟨kv, hkv, he⟩
      exact hnot (List.mem_map.mpr ⟨kv, hkv, of_decide_eq_true he⟩)
    refine wpAny_updateDictKeys (hz := hes) ho hd (hQ _ ⟨_, _, ep + 1, Heap.get?_update_self _ ho (Obj.isFreed_of_dict (Obj.data_mapDictKeys hd _)),
      hc.mapDictKeys _, Obj.data_mapDictKeys hd _, hk.push hkey _, ?_, ?_⟩ (Heap.SameBut.update ..))
    · rw [stored, if_neg hany]
      have := hp.append hkey (knd.hash k) v
      obtain ⟨l⟩ := es
      simpa using this
    · rw [stored, if_neg hany, List.map_append, List.nodup_append]
      refine ⟨hn, by simp, ?_⟩
      intro a ha b hb
      simp only [List.map_cons, List.map_nil, List.mem_singleton] at hb
      subst hb
      exact fun e => hnot (e ▸ ha)
theorem mergeMapping_pairs {d o : Addr} {kvs more : List (K × Value)} {Q : Unit → Shared → Prop} (hdo : d ≠ o) (hoS : (o == sysModules) = false)
    (hd : s.heap.DictOf knd d kvs) (ho : s.heap.DictOf knd o more)
    (hQ : ∀ h', h'.DictOf knd d (merged kvs more) → Heap.SameBut d s.heap h' → Q () { s with heap := h' })
    (hsz : kvs.length + more.length ≤ sizeLine) :
    wpAny (model prog w) A (mergeMapping d (.ref o) false) Q E s := by
  obtain ⟨od, esd, epd, hod, hcd, hdd, hkd, hpd, hnd⟩ := id hd
  obtain ⟨oo, eso, epo, hoo, hco, hdo', hko, hpo, hno⟩ := id ho
  have hlen : more.length = eso.size := by rw [← hpo.length]; simp
  have loop : wpAny (model prog w) A (do
      let l0 ← dictEntries o
      let epoch ← dictEpoch o
      forIn (List.range l0.size) PUnit.unit fun i (_ : PUnit) => (do
        let l ← dictEntries o
        match l[i]? with
          | some e => do
            holding [e.key, e.val] (dictPut d e.hash e.key e.val)
            let ep ← dictEpoch o
            if (ep != epoch) = true then do
                (unsupported "dict.changed-during-merge" : Sem PUnit)
                pure (ForInStep.yield PUnit.unit)
              else pure (ForInStep.yield PUnit.unit)
          | _ => do
            (unsupported "dict.changed-during-merge" : Sem PUnit)
            pure (ForInStep.yield PUnit.unit) : Sem (ForInStep PUnit))
      pure ()) Q E s := by
    refine wpAny_bind (wpAny_dictEntries hoo hdo' ?_)
    refine wpAny_bind (wpAny_dictEpoch hoo hdo' ?_)
    refine wpAny_bind ?_
    rw [List.range_eq_range']
    refine wpAny_forIn_list _
      (fun rest _ s' => ∃ h' i, s' = { s with heap := h' } ∧ rest = List.range' i (eso.size - i) ∧ i ≤ eso.size ∧ h'.DictOf knd d (merged kvs (more.take i)) ∧ h'.get? o = some oo ∧ Heap.SameBut d s.heap h')
      _ ?_ ?_ _ _ ⟨s.heap, 0, rfl, by simp, Nat.zero_le _, by simpa [merged] using hd, hoo, Heap.SameBut.refl _ _⟩
    · rintro x rest b s' ⟨h', i, rfl, hr, hi, hd', hoo', hs'⟩
      have hlt : i < eso.size := by
        rcases Nat.lt_or_ge i eso.size with h | h
        · exact h
        · rw [Nat.sub_eq_zero_of_le h] at hr; simp at hr
      obtain ⟨rfl, hrest⟩ : x = i ∧ rest = List.range' (i + 1) (eso.size - (i + 1)) := by
        have e : eso.size - i = (eso.size - (i + 1)) + 1 := by omega
        rw [e, List.range'_succ] at hr
        injection hr with h1 h2
        exact ⟨h1, h2⟩
      refine wpAny_bind (wpAny_dictEntries hoo' hdo' ?_)
      rw [Array.getElem?_eq_getElem hlt]
      obtain ⟨kv, hkv⟩ : ∃ kv, more[x]? = some kv := ⟨more[x]'(by rw [hlen]; exact hlt), List.getElem?_eq_getElem _⟩
      obtain ⟨k, v⟩ := kv
      obtain ⟨hkey, hval⟩ := hpo.get? (e := eso[x]) (by simp [hlt]) hkv
      obtain ⟨k', hkey', hhash⟩ := hko eso[x] (Array.getElem_mem hlt)
      obtain rfl : k' = k := knd.inj _ _ _ hkey' hkey
      show wpAny _ _ (holding [eso[x].key, eso[x].val] (dictPut d eso[x].hash eso[x].key eso[x].val) >>= _) _ _ _
      rw [hhash, hval]
      have hmx : (merged kvs (more.take x)).length ≤ sizeLine := by
        have e1 := merged_length_le kvs (more.take x)
        have e2 : (more.take x).length ≤ more.length := by rw [List.length_take]; omega
        omega
      refine wpAny_bind (wpAny_holding (dictPut_pairs (hsz := hmx) hkey hd' fun h'' hd'' hs'' => ?_))
      have hoo'' : h''.get? o = some oo := (hs''.2 o (Ne.symm hdo)).trans hoo'
      refine wpAny_bind (wpAny_dictEpoch hoo'' hdo' ?_)
      rw [if_neg (by simp)]
      exact wpAny_pure ⟨h'', x + 1, rfl, hrest, hlt, by rw [merged_take_succ kvs more x (k', v) hkv]; exact hd'', hoo'', hs'.trans hs''⟩
    · rintro b s' ⟨h', i, rfl, hr, hi, hd', hoo', hs'⟩
      have hin : i = eso.size := by
        rcases Nat.lt_or_ge i eso.size with h | h
        · have e : eso.size - i = (eso.size - (i + 1)) + 1 := by omega
          rw [e, List.range'_succ] at hr; exact nomatch hr
        · exact Nat.le_antisymm hi h
      refine wpAny_pure (hQ h' ?_ hs')
      rw [hin, ← hlen, List.take_length] at hd'; exact hd'
  unfold mergeMapping
  refine wpAny_bind (wpAny_isInstance ho.typeIs isSubtype_dict_dict ?_)
  rw [if_pos rfl]
  refine wpAny_bind (wpAny_specialOf ho.typeIs F.slot_dict_iter.lookup ?_)
  refine wpAny_bind (wpAny_pure ?_)
  simp only [beq_self_eq_true]
  rw [if_neg (by rw [hoS]; exact Bool.false_ne_true)]
  refine wpAny_bind (wpAny_dictEntries hod hdd ?_)
  split
  · refine wpAny_bind (wpAny_dictEntries hoo hdo' ?_)
    refine wpAny_bind ?_
    rw [← Array.forIn_toList]
    refine wpAny_forIn_list _ (fun rest _ s' => s' = s ∧ ∀ e ∈ rest, e ∈ eso.toList) _ ?_ ?_ _ _ ⟨rfl, fun _ h => h⟩
    · rintro e rest b s' ⟨rfl, hr⟩
      obtain ⟨k', hkey', _⟩ := hko e (by simpa using hr e List.mem_cons_self)
      have nb := knd.byValue k' _ hkey'
      cases q : e.key with
      | ref a => rw [q] at nb; cases nb
      | _ => exact wpAny_pure ⟨rfl, fun e h => hr e (List.mem_cons_of_mem _ h)⟩
    · rintro b s' ⟨rfl, _⟩
      exact loop
  · exact loop
end
end PL

/-! {**a, **b} over the hand layer's heap. -/
namespace PL
open PySem PySem.Spec L2
section
variable {X : Cx}
def tOver (t1 t2 : TE) : TE := fun σ H Q => ∀ p, H p = none → t1 σ (upd H p (.dK [])) fun x1 H1 => ∃ a1 k1, x1 = V.ref a1 ∧ Rd H1 a1 (.dK k1) ∧ a1 ≠ p ∧ H1 p = some (.dK []) ∧
  t2 σ (upd H1 p (.dK (mergeK [] k1))) fun x2 H2 => ∃ a2 k2, x2 = V.ref a2 ∧ Rd H2 a2 (.dK k2) ∧ a2 ≠ p ∧ H2 p = some (.dK (mergeK [] k1)) ∧ (mergeK [] k1).length + k2.length ≤ sizeLine ∧
  Q (.ref p) (upd H2 p (.dK (mergeK (mergeK [] k1) k2)))
theorem merge_at {pins : List (Addr × Obj)} {σ : L2.St} {H : Hp} {s : Shared} {A : Around} {E : Value → Shared → Prop} {p a : Addr} {k0 k1 : List (Key × V)} {Q : Unit → Shared → Prop} (I : Inv X pins σ H s) (e : H p = some (.dK k0)) (r : Rd H a (.dK k1)) (ne : a ≠ p) (hz : k0.length + k1.length ≤ sizeLine)
    (h : ∀ s', Inv X pins σ (upd H p (.dK (mergeK k0 k1))) s' → Q () s') : wpAny (model X.prog X.w) A (mergeMapping p (.ref a) false) Q E s := by
  obtain ⟨_, hp, vs0, r0, d0⟩ := dk_of I.hok e
  obtain ⟨_, ha, vs1, r1, d1⟩ := dk_rd I.hok r
  refine mergeMapping_pairs (knd := mixKind X.prog X.w) (Ne.symm ne) ha d0 d1 (fun h' dd hs => ?_) (by rw [← r0.length, ← r1.length]; exact hz)
  have hl : (mergeK k0 k1).length ≤ sizeLine := Nat.le_trans (length_mergeK k1 k0) hz
  have he : ∃ q, h'.get? p = some q := let ⟨q, _, _, hq, _⟩ := dd; ⟨q, hq⟩
  exact h { s with heap := h' } (d_write (t' := s.toks) I (by rw [e]; exact True.intro) hs he (dk_new hl hp (r1.merge r0) dd))
theorem pe_over {e1 e2 : Expr} {pos : Pos} {t1 t2 : TE} (h1 : PE X e1 t1) (h2 : PE X e2 t2) : PE X (.Dict [none, none] [e1, e2] pos) (tOver t1 t2) := by
  refine ⟨fun pins s σ H Q I q => ?_⟩
  have hn := I.hok.fresh (Nat.le_refl s.heap.objs.size)
  have I1 := I.laid (a := s.heap.objs.size) (o := .dK []) (h' := s.heap.push { cls := .type "dict", data := .dict #[] }) (t' := s.toks) (fun _ _ q => Heap.get?_push_of_some _ q) (Nat.le_refl _) (dk_empty s.heap I.big)
  have q1 := q _ hn
  rw [arm_eval_Dict]
  refine wpAny_bind (wpAny_standAt ?_)
  show wpAny _ _ (dictDisplay [(none, do let x ← eval e1 X.env; standAt pos; pure x), (none, do let x ← eval e2 X.env; standAt pos; pure x)]) _ _ _
  unfold dictDisplay
  simp only [List.forIn_cons, List.forIn_nil, List.isEmpty_nil, if_true]
  refine wpAny_bind ?_
  refine wpAny_bind ?_
  refine wpAny_bind (wpAny_pure ?_)
  refine wpAny_bind (wpAny_alloc ?_)
  refine wpAny_bind (wpAny_holding (wpAny_bind (thn (h1.run pins _ σ _ _ I1 q1) fun u1 s1 ⟨x1, H1, J1, rx1, a1, k1, ex1, rd1, ne1, e1, q2⟩ => wpAny_bind (wpAny_standAt (wpAny_pure ?_)))))
  subst ex1
  obtain rfl : u1 = Value.ref a1 := rx1
  have hz1 : ([] : List (Key × V)).length + k1.length ≤ sizeLine := by
    have := (dk_rd J1.hok rd1).1
    rw [List.length_nil]; omega
  refine wpAny_bind (wpAny_onRaise (wpAny_tryCatch (wpAny_onRaise (wpAny_holding (merge_at J1 e1 rd1 ne1 hz1 fun s2 J2 => ?_)))))
  refine wpAny_pure ?_
  dsimp only
  refine wpAny_bind ?_
  simp only [List.isEmpty_nil, if_true]
  refine wpAny_bind (wpAny_pure ?_)
  dsimp only
  refine wpAny_bind (wpAny_pure ?_)
  refine wpAny_bind (wpAny_holding (wpAny_bind (thn (h2.run pins _ σ _ _ J2 q2) fun u2 s3 ⟨x2, H3, J3, rx2, a2, k2, ex2, rd2, ne2, e3, hz2, q3⟩ => wpAny_bind (wpAny_standAt (wpAny_pure ?_)))))
  subst ex2
  obtain rfl : u2 = Value.ref a2 := rx2
  refine wpAny_bind (wpAny_onRaise (wpAny_tryCatch (wpAny_onRaise (wpAny_holding (merge_at J3 e3 rd2 ne2 hz2 fun s4 J4 => ?_)))))
  refine wpAny_pure ?_
  dsimp only
  refine wpAny_pure ?_
  simp only [List.isEmpty_nil, if_true]
  refine wpAny_bind (wpAny_pure ?_)
  dsimp only
  exact wpAny_pure ⟨.ref s.heap.objs.size, _, J4, rfl, q3⟩
end
end PL

/-! dict(..), d.get(..), {**a, **b}, lists made over a dict's keys. -/
namespace PL
open PySem PySem.Spec L2
/-! ### dict(tuple of pairs) -/
def PlainT (K : PySem.W.Frag) (H : Hp) (a : Addr) (xs : List V) : Prop := PlT H a xs ∨ WrT K a xs
section
variable {X : Cx} {pins : List (Addr × Obj)} {σ : L2.St} {H : Hp} {s : Shared}
theorem plainT_at {a : Addr} {xs : List V} (I : Inv X pins σ H s) (h : PlainT X.K H a xs) : ∃ (o : Obj) (n : Nat) (its : List Value), s.heap.get? a = some o ∧ o.cls = .type "tuple" ∧ o.dict = none ∧ o.data = .seq its.toArray n ∧ Vals xs its ∧ xs.length ≤ sizeLine := by
  rcases h with ⟨o, e, d⟩ | ⟨o, its, n, h1, h2, h3, h4, h5, h6⟩
  · obtain ⟨hg, z, its, r, ⟨o', ho, hc, n, hd⟩⟩ := I.hok a _ e
    rw [hg] at ho
    cases ho
    exact ⟨o, n, its, hg, hc, d, hd, r, z⟩
  · refine ⟨o, n, its.toList, I.kIn a o h1, h2, h3, by simpa using h4, h6, ?_⟩
    have := h6.length
    simp only [Array.length_toList] at this
    omega
theorem pairs_psv (I : Inv X pins σ H s) : ∀ {ps : List Addr} {kvs : List (Key × V)}, Paired (fun p kv => SqT X.K H p [kV kv.1, kv.2]) ps kvs →
    ∃ (psv : List (Value × Value)) (prs : List (Key × Value)), L2.KV kvs prs ∧ psv.length = ps.length ∧ prs.length = ps.length ∧ ∀ (j : Nat) (k v : Value), psv[j]? = some (k, v) → ∃ (b : Addr) (q : Key), ps[j]? = some b ∧ PairAt s.heap b k v ∧ prs[j]? = some (q, v) ∧ keyIs q k = true
  | _, _, .nil => ⟨[], [], .nil, rfl, rfl, fun j k v e => by simp at e⟩
  | _, _, .cons (a := p) (b := kv) h t => by
    obtain ⟨psv, prs, r, hl, hl2, hp⟩ := pairs_psv I t
    obtain ⟨its, rv, ht, _⟩ := I.tuple h
    obtain ⟨u, y, ei, ru, ry⟩ := vals2 rv
    subst ei
    refine ⟨(u, y) :: psv, (kv.1, y) :: prs, .cons ⟨rfl, ry⟩ r, by rw [List.length_cons, List.length_cons, hl], by rw [List.length_cons, List.length_cons, hl2], fun j k v e => ?_⟩
    cases j with
    | zero =>
      have e' : (u, y) = (k, v) := Option.some.inj e
      cases e'
      exact ⟨p, kv.1, rfl, .inl (show s.heap.IsTuple p #[u, y] from ht), rfl, kV_is (P := X.prog) (w := X.w) ru⟩
    | succ j =>
      obtain ⟨b, q, e1, e2, e3, e4⟩ := hp j k v (by simpa using e)
      exact ⟨b, q, by simpa using e1, e2, by simpa using e3, e4⟩
theorem call_dictTZ (hcalm : X.calm = true) : CallR X (.type "dict") (fun xs H Q => ∃ (a : Addr) (ps : List Addr) (kvs : List (Key × V)), xs = [.ref a] ∧ PlainT X.K H a (ps.map V.ref) ∧ Paired (fun p kv => SqT X.K H p [kV kv.1, kv.2]) ps kvs ∧
    ∀ p, H p = none → Q (.ref p) (upd H p (.dK (mergeK [] kvs)))) := by
  intro pins s σ H xs us Q I r q
  obtain ⟨a, ps, kvs, ex, hq, hp, q⟩ := q
  subst ex
  obtain ⟨u, eu, rx⟩ := vals1 r
  subst eu
  cases rx
  obtain ⟨o, n, its, ho, hc, hd, hdt, rv, hz⟩ := plainT_at I hq
  have ei := refs_at rv
  subst ei
  rw [List.length_map] at hz
  obtain ⟨psv, prs, rel, hl, hl2, hpr⟩ := pairs_psv I hp
  have P := PairArg.tuple (prog := X.prog) (w := X.w) a (ps.map Value.ref).toArray (fun j => (ps[j]?).getD 0) psv
  refine PySem.call_dict_pairs (knd := mixKind X.prog X.w) (kvs := prs) P (I.ok.hd hcalm) ⟨⟨o, n, ho, hc, hd, hdt⟩, by simp [hl], fun j k v e => ?_⟩ ⟨by rw [hl2, hl], fun i k v e => ?_⟩ (by rw [hl]; exact hz) fun h' tk hd' k => ?_
  · obtain ⟨b, q, e1, e2, _, _⟩ := hpr j k v e
    refine ⟨by simp [e1], ?_⟩
    show PairAt _ ((ps[j]?).getD 0) k v
    rw [e1]
    exact e2
  · obtain ⟨b, q, e1, e2, e3, e4⟩ := hpr i k v e
    exact ⟨q, e3, e4⟩
  · have hm : (s.heap.objs.size == sysModules) = false := beq_eq_false_iff_ne.mpr (Nat.ne_of_gt I.big)
    have hlen : (mergeK [] kvs).length ≤ sizeLine := by
      refine Nat.le_trans (length_mergeK kvs []) ?_
      rw [List.length_nil, Nat.zero_add, rel.length, hl2]
      exact hz
    exact ⟨.ref s.heap.objs.size, upd H s.heap.objs.size (.dK (mergeK [] kvs)), I.laid (t' := tk) (fun b o e => k b o (List.not_mem_nil) e) (Nat.le_refl _) (show ObjOk X.prog X.w _ _ _ (.dK (mergeK [] kvs)) from ⟨hlen, hm, merged [] prs, L2.KV.merge rel .nil, hd'⟩), rfl, q _ (I.hok.fresh (Nat.le_refl _))⟩
end
/-! ### pairs as data -/
def pairsL : List D → Option (List (Key × D))
  | [] => some []
  | x :: r => match x with
    | .tup [k, v] => match keyD k, pairsL r with
      | some kk, some l => some ((kk, v) :: l)
      | _, _ => none
    | _ => none
def mergeD (kvs more : List (Key × D)) : List (Key × D) := more.foldl (fun acc kv => putD acc kv.1 kv.2) kvs
def dictW : D → W (List (Key × D))
  | .lst xs => bnd (optW (pairsL xs)) fun l => ret (mergeD [] l)
  | .tup xs => bnd (optW (pairsL xs)) fun l => ret (mergeD [] l)
  | .dic kvs => ret kvs
  | _ => stuck
section
variable {K : PySem.W.Frag} {S : Addr → Prop} {H : Hp}
theorem RepK.merge : ∀ {more : List (Key × D)} {mws : List (Key × V)} {kvs : List (Key × D)} {kws : List (Key × V)}, RepK K S H kvs kws → RepK K S H more mws → RepK K S H (mergeD kvs more) (mergeK kws mws)
  | [], _, kvs, kws, h, q => by
    have e : _ = [] := q
    rw [e]
    exact h
  | (k, x) :: more, _, kvs, kws, h, q => by
    obtain ⟨v, ws, rfl, r, q⟩ := q
    show RepK K S H (mergeD (putD kvs k x) more) (mergeK (putK kws k v) ws)
    exact RepK.merge (RepK.put k h r) q
theorem reps_pairs : ∀ {xs : List D} {vs : List V} {kvs : List (Key × D)}, Reps K S H xs vs → pairsL xs = some kvs →
    ∃ (ps : List Addr) (kws : List (Key × V)), vs = ps.map V.ref ∧ Paired (fun p kv => SqT K H p [kV kv.1, kv.2]) ps kws ∧ RepK K S H kvs kws
  | [], _, kvs, h, e => by
    have e0 : _ = [] := h
    rw [e0]
    cases e
    exact ⟨[], [], rfl, .nil, rfl⟩
  | x :: xs, _, kvs, h, e => by
    obtain ⟨v, ws, rfl, r, q⟩ := h
    match x, e, r with
    | .tup [k, y], e, r =>
      unfold pairsL at e
      simp only at e
      cases ek : keyD k with
      | none => rw [ek] at e; cases e
      | some kk =>
        cases ep : pairsL xs with
        | none => rw [ek, ep] at e; cases e
        | some l =>
          rw [ek, ep] at e
          cases e
          obtain ⟨ps, kws, e1, e2, e3⟩ := reps_pairs q ep
          obtain ⟨p, vs2, rfl, r1, _, q1⟩ := r
          obtain ⟨v1, w1, rfl, rk, q2⟩ := q1
          obtain ⟨v2, w2, rfl, ry, q3⟩ := q2
          have q3 : w2 = [] := q3
          subst q3
          obtain rfl := keyD_rep ek rk
          exact ⟨p :: ps, (kk, v2) :: kws, by rw [e1]; rfl, .cons r1.sq e2, v2, kws, rfl, ry, e3⟩
end
section
variable {G : PenK} {X : Cx} {Wx : WX} {c : C} {σ : L2.St} {ρ : Env} {H : Hp} {n : Nt}
theorem GlK.new {P : List (Key × D) → Nt → Prop} {Q : VK} (h : GlK G X c σ ρ H P Q) {xs : List (Key × D)} {a : Addr} {vs : List (Key × V)} (p : P xs n) (I : SI G X.K c σ H ρ n) (hp : H a = none) (r : RepK X.K c.S H xs vs) : Q (.ref a) (upd H a (.dK vs)) := by
  obtain ⟨I2, g2, f⟩ := SI.bare (o := .dK vs) I hp
  exact h xs n a vs c.S _ p g2 I2 upd_same (RepK.grow g2 _ _ r) f
/-- dict(e) -/
theorem k_dict {p pos : Pos} {e : Expr} {g : Env → W D} (hc : X.calm = true) (hm : X.mg "dict" = none) (h : E G X Wx e g) (hg : Gl X "dict" := by rfl) (he : starEach [e] X.env = (false, eval e X.env) :: starEach [] X.env := by rfl) (hv : bootBuiltins "dict" = some (.type "dict") := by first | exact PyProof.Rows.boot_dict | rfl) (hpl : (backTo pos (starEach [] X.env)).any (·.1) = false := by rfl) (hdb : (("dict" : Str) == ("__debug__" : Str)) = false := by decide) :
    EK G X Wx (.Call (.Name "dict" p) [e] [] pos) (fun ρ => bnd (g ρ) dictW) :=
  weakE (pe_callTy ((call_dictP hc).or ((call_dictTZ hc).or call_dictD)) hg hm hv (a_cons h a_nil he) (by decide) hdb he hpl) fun σ H Q ⟨c, ρ, n, P, PX, I, q, hg, hx⟩ => tAr.bnd (f := fun ds => match ds with | [d] => dictW d | _ => stuck) I q hx fun ds k vs S' H' p g I' hx' rs => by
    have hg : GlK G X (c.to S') σ ρ H' P Q := fun xs k a vs S2 H2 p2 g2 I2 e r f => hg xs k a vs S2 H2 p2 (g.trans g2) I2 e r f
    cases ds with
    | nil => exact p.elim
    | cons d ds =>
      cases ds with
      | cons _ _ => exact p.elim
      | nil =>
        obtain ⟨u, rfl, r1⟩ := rs.one_inv
        cases d with
        | lst xs =>
          obtain ⟨a, us, rfl, r2, _, q1⟩ := r1
          obtain ⟨l, el, p⟩ := optW_inv (show optW (pairsL xs) k (fun l k => P (mergeD [] l) k) PX from p)
          obtain ⟨ps, kws, rfl, pr, rk⟩ := reps_pairs q1 el
          exact .inl ⟨a, ps, kws, rfl, r2.sq, pr, fun b hb => hg.new p I' hb (RepK.merge (kvs := []) (kws := []) rfl rk)⟩
        | tup xs =>
          obtain ⟨a, us, rfl, r2, _, q1⟩ := r1
          obtain ⟨l, el, p⟩ := optW_inv (show optW (pairsL xs) k (fun l k => P (mergeD [] l) k) PX from p)
          obtain ⟨ps, kws, rfl, pr, rk⟩ := reps_pairs q1 el
          exact .inr (.inl ⟨a, ps, kws, rfl, r2.elim (fun z => .inl z.2) .inr, pr, fun b hb => hg.new p I' hb (RepK.merge (kvs := []) (kws := []) rfl rk)⟩)
        | dic kvs =>
          obtain ⟨a, kws, rfl, ⟨_, rd⟩, rk⟩ := r1
          exact .inr (.inr ⟨a, kws, rfl, rd, fun b hb => hg.new p I' hb rk⟩)
        | _ => exact False.elim p
end
end PL

/-! d.get(k), {**a, **b}, [.. for key in d ..]. -/
namespace PL
open PySem PySem.Spec L2
section
variable {G : PenK} {X : Cx} {Wx : WX}
/-! ### d.get(k) -/
def dicW : D → W (List (Key × D))
  | .dic kvs => ret kvs
  | _ => stuck
/-! ### dicts that are only read or made anew: nothing else is laid or changed -/
def tFd (G : PenK) (X : Cx) (Wx : WX) (g : Env → W (List (Key × D))) : TE := fun σ H Q => ∃ c ρ n P PX, SI G X.K c σ H ρ n ∧ g ρ n P PX ∧
  (∀ xs (k : Nt) a vs H', P xs k → k.μ = n.μ → (∀ b o, H b = some o → H' b = some o) → SI G X.K c σ H' ρ k → Rd H' a (.dK vs) → RepK X.K c.S H' xs vs → (c.S a ∨ H a = none) → Q (.ref a) H') ∧ OKx G X Wx c σ ρ H PX
def EF (G : PenK) (X : Cx) (Wx : WX) (e : Expr) (g : Env → W (List (Key × D))) : Prop := PE X e (tFd G X Wx g)
theorem nm_inv {ρ : Env} {i : Nat} {n : Nt} {α : Type} {f : D → W α} {P : α → Nt → Prop} {PX : Exc → Nt → Prop} (h : bnd (nm ρ i) f n P PX) : ∃ d, ρ[i]? = some (.d d) ∧ f d n P PX := by
  unfold nm at h
  cases e : ρ[i]? with
  | none => rw [e] at h; exact False.elim h
  | some sv =>
    rw [e] at h
    cases sv with
    | d x => exact ⟨x, rfl, h⟩
    | _ => exact False.elim h
theorem f_dict {x : Str} {px p pos : Pos} (i : Nat) (hc : X.calm = true) (hm : X.mg "dict" = none) (hN : X.N[i]? = some x := by rfl) (hv : Vis X.env.scope x := by first | exact Or.inl rfl | exact Or.inr (Or.inl rfl) | exact Or.inr (Or.inr rfl)) (hd : (x == ("__debug__" : Str)) = false := by decide)
    (hcd : (x == ("__classdict__" : Str)) = false := by decide) (hg : Gl X "dict" := by rfl) (he : starEach [.Name x px] X.env = (false, eval (.Name x px) X.env) :: starEach [] X.env := by rfl) (hbv : bootBuiltins "dict" = some (.type "dict") := by first | exact PyProof.Rows.boot_dict | rfl) (hpl : (backTo pos (starEach [] X.env)).any (·.1) = false := by rfl) (hdb : (("dict" : Str) == ("__debug__" : Str)) = false := by decide) :
    EF G X Wx (.Call (.Name "dict" p) [.Name x px] [] pos) (fun ρ => bnd (nm ρ i) dictW) :=
  weakE (pe_callTy ((call_dictP hc).or ((call_dictTZ hc).or call_dictD)) hg hm hbv (pa_cons (pe_var hN hv hd hcd) pa_nil he) (by decide) hdb he hpl) fun σ H Q ⟨c, ρ, n, P, PX, I, q, hg, hx⟩ => by
    obtain ⟨d, e, q⟩ := nm_inv (show bnd (nm ρ i) dictW n P PX from q)
    obtain ⟨v, e1, r⟩ := I.slots i _ e
    have fin : ∀ (xs : List (Key × D)) (vs : List (Key × V)) (b : Addr), P xs n → RepK X.K c.S H xs vs → H b = none → Q (.ref b) (upd H b (.dK vs)) := fun xs vs b p rk hb => by
      obtain ⟨I2, g2, f⟩ := SI.bare (o := .dK vs) I hb
      exact hg xs n b vs _ p rfl (fun b2 o e => by rw [upd_ne (ne_of_none e hb)]; exact e) I2 (.inl upd_same) (RepK.grow g2 _ _ rk) (.inr hb)
    refine ⟨v, slot_some e1, ?_⟩
    cases d with
    | lst xs =>
      obtain ⟨a, us, rfl, r2, _, q1⟩ := r
      obtain ⟨l, el, p⟩ := optW_inv (show optW (pairsL xs) n (fun l k => P (mergeD [] l) k) PX from q)
      obtain ⟨ps, kws, rfl, pr, rk⟩ := reps_pairs q1 el
      exact .inl ⟨a, ps, kws, rfl, r2.sq, pr, fun b hb => fin _ _ b p (RepK.merge (kvs := []) (kws := []) rfl rk) hb⟩
    | tup xs =>
      obtain ⟨a, us, rfl, r2, _, q1⟩ := r
      obtain ⟨l, el, p⟩ := optW_inv (show optW (pairsL xs) n (fun l k => P (mergeD [] l) k) PX from q)
      obtain ⟨ps, kws, rfl, pr, rk⟩ := reps_pairs q1 el
      exact .inr (.inl ⟨a, ps, kws, rfl, r2.elim (fun z => .inl z.2) .inr, pr, fun b hb => fin _ _ b p (RepK.merge (kvs := []) (kws := []) rfl rk) hb⟩)
    | dic kvs =>
      obtain ⟨a, kws, rfl, ⟨_, rd⟩, rk⟩ := r
      exact .inr (.inr ⟨a, kws, rfl, rd, fun b hb => fin _ _ b q rk hb⟩)
    | _ => exact False.elim q
/-- {**a, **b} -/
def overW (a b : List (Key × D)) : W (List (Key × D)) := grd (a.length + b.length ≤ sizeLine) (ret (mergeD (mergeD [] a) b))
theorem k_over {e1 e2 : Expr} {pos : Pos} {g1 g2 : Env → W (List (Key × D))} (h1 : EF G X Wx e1 g1) (h2 : EF G X Wx e2 g2) :
    EK G X Wx (.Dict [none, none] [e1, e2] pos) (fun ρ => bnd (g1 ρ) fun a => bnd (g2 ρ) fun b => overW a b) :=
  weakE (pe_over h1 h2) fun σ H Q ⟨c, ρ, n, P, PX, I, q, hg, hx⟩ => fun p hp => by
    obtain ⟨I0, g0, f0⟩ := SI.bare (o := .dK []) I hp
    have h0 : c.H0 p = none := I.freeOld hp
    have hS : ¬ c.S p := I.freeS hp
    have hO : ¬ ownS ρ σ p := fun z => I.own_there z hp
    refine ⟨c, ρ, n, fun a k => bnd (g2 ρ) (fun b => grd (a.length + b.length ≤ sizeLine) (ret (mergeD (mergeD [] a) b))) k P PX, PX, I0, q, fun xs k a vs H1 p1 em1 fr1 I1 rd1 rk1 ha => ?_, hx.grow g0⟩
    have e1 : H1 p = some (.dK []) := fr1 p _ upd_same
    have ne1 : a ≠ p := fun z => ha.elim (fun w => hS (z ▸ w)) fun w => by rw [z, upd_same] at w; cases w
    have gr1 : Grow c.S c.S (upd H p (.dK [])) H1 := ⟨fun _ w => w, fun b w => by
      cases eb : upd H p (.dK []) b with
      | none => exact absurd eb (I0.dom b w)
      | some o => exact fr1 b o eb⟩
    obtain ⟨I2, gr2⟩ := SI.put (o := .dK (mergeK [] vs)) I1 h0 hS (by rw [em1]; exact I.freeM hp) hO
    refine ⟨a, vs, rfl, rd1, ne1, e1, c, ρ, k, fun b k => (grd (xs.length + b.length ≤ sizeLine) (ret (mergeD (mergeD [] xs) b))) k P PX, PX, I2, p1, fun ys k2 a2 ws H2 p2 em2 fr2 I3 rd2 rk2 ha2 => ?_, hx.grow ((g0.trans gr1).trans gr2)⟩
    obtain ⟨z, p2⟩ := p2
    have e2 : H2 p = some (.dK (mergeK [] vs)) := fr2 p _ upd_same
    have ne2 : a2 ≠ p := fun z => ha2.elim (fun w => hS (z ▸ w)) fun w => by rw [z, upd_same] at w; cases w
    have gr3 : Grow c.S c.S (upd H1 p (.dK (mergeK [] vs))) H2 := ⟨fun _ w => w, fun b w => by
      cases eb : upd H1 p (.dK (mergeK [] vs)) b with
      | none => exact absurd eb (I2.dom b w)
      | some o => exact fr2 b o eb⟩
    have l1 := rk1.len
    have l2 := rk2.len
    have l3 := length_mergeK vs []
    rw [List.length_nil] at l3
    obtain ⟨I4, gr4⟩ := SI.put (o := .dK (mergeK (mergeK [] vs) ws)) I3 h0 hS (by rw [em2, em1]; exact I.freeM hp) hO
    refine ⟨a2, ws, rfl, rd2, ne2, e2, by omega, ?_⟩
    have rk1' := RepK.grow ((gr2.trans gr3).trans gr4) _ _ rk1
    exact hg _ k2 p _ c.S _ p2 ((((g0.trans gr1).trans gr2).trans gr3).trans gr4) I4 upd_same (RepK.merge (RepK.merge (kvs := []) (kws := []) rfl rk1') (RepK.grow gr4 _ _ rk2)) ⟨⟨hS, h0, by rw [em2, em1]; exact I.freeM hp⟩, fun i sv e ho es => hO ⟨i, sv, e, ho, es⟩⟩
end
/-! ### [.. for key in d ..]: the dict is locked meanwhile -/
def C.free (c : C) (d : Addr) : C := { c with H0 := fun a => if a = d then none else c.H0 a }
mutual
theorem Rep.rd {K : PySem.W.Frag} {S : Addr → Prop} {H H' : Hp} (hl : ∀ a xs, S a → H a = some (.lst xs) → H' a = some (.lst xs)) (ht : ∀ a xs, S a → PlT H a xs → PlT H' a xs) (hd : (∀ a kws, S a → Rd H a (.dK kws) → Rd H' a (.dK kws)) ∧ ∀ a C dx fs, S a → H a = some (.ins C dx fs) → H' a = some (.ins C dx fs)) : ∀ (x : D) (v : V), Rep K S H x v → Rep K S H' x v
  | .non, _, h => h
  | .bl _, _, h => h
  | .int _, _, h => h
  | .str _, _, h => h
  | .lst xs, _, h => by
    obtain ⟨a, vs, e, ⟨r1, r2⟩, z, q⟩ := h
    exact ⟨a, vs, e, ⟨r1, hl a _ r1 r2⟩, z, Reps.rd hl ht hd xs vs q⟩
  | .tup xs, _, h => by
    obtain ⟨a, vs, e, r, z, q⟩ := h
    exact ⟨a, vs, e, r.elim (fun ⟨r1, r2⟩ => .inl ⟨r1, ht a _ r1 r2⟩) .inr, z, Reps.rd hl ht hd xs vs q⟩
  | .dic kvs, _, h => by
    obtain ⟨a, kws, e, ⟨r1, r2⟩, q⟩ := h
    exact ⟨a, kws, e, ⟨r1, hd.1 a _ r1 r2⟩, RepK.rd hl ht hd kvs kws q⟩
  | .ins _ _ x, _, h => by
    obtain ⟨a, C, dx, w, e, i, ⟨r1, r2⟩, q⟩ := h
    exact ⟨a, C, dx, w, e, i, ⟨r1, hd.2 a _ _ _ r1 r2⟩, Rep.rd hl ht hd x w q⟩
theorem Reps.rd {K : PySem.W.Frag} {S : Addr → Prop} {H H' : Hp} (hl : ∀ a xs, S a → H a = some (.lst xs) → H' a = some (.lst xs)) (ht : ∀ a xs, S a → PlT H a xs → PlT H' a xs) (hd : (∀ a kws, S a → Rd H a (.dK kws) → Rd H' a (.dK kws)) ∧ ∀ a C dx fs, S a → H a = some (.ins C dx fs) → H' a = some (.ins C dx fs)) : ∀ (xs : List D) (vs : List V), Reps K S H xs vs → Reps K S H' xs vs
  | [], _, h => h
  | x :: xs, _, h => by
    obtain ⟨v, ws, e, r, q⟩ := h
    exact ⟨v, ws, e, Rep.rd hl ht hd x v r, Reps.rd hl ht hd xs ws q⟩
theorem RepK.rd {K : PySem.W.Frag} {S : Addr → Prop} {H H' : Hp} (hl : ∀ a xs, S a → H a = some (.lst xs) → H' a = some (.lst xs)) (ht : ∀ a xs, S a → PlT H a xs → PlT H' a xs) (hd : (∀ a kws, S a → Rd H a (.dK kws) → Rd H' a (.dK kws)) ∧ ∀ a C dx fs, S a → H a = some (.ins C dx fs) → H' a = some (.ins C dx fs)) : ∀ (xs : List (Key × D)) (vs : List (Key × V)), RepK K S H xs vs → RepK K S H' xs vs
  | [], _, h => h
  | (k, x) :: xs, _, h => by
    obtain ⟨v, ws, e, r, q⟩ := h
    exact ⟨v, ws, e, Rep.rd hl ht hd x v r, RepK.rd hl ht hd xs ws q⟩
end
section
variable {G : PenK} {K : PySem.W.Frag} {c : C} {σ : L2.St} {ρ : Env} {H H' : Hp} {n k : Nt} {d : Addr} {o : Obj} {kws : List (Key × V)}
theorem RepX.rd {S : Addr → Prop} {mg : Str → Option Value} {x : Exc} {cls : Value} {dd : Option Addr} (f : ∀ x v, Rep K S H x v → Rep K S H' x v) (hx : ∀ a fv, H a = some (.xd fv) → H' a = some (.xd fv)) (h : RepX K mg S H x cls dd) : RepX K mg S H' x cls dd := by
  obtain ⟨A, h1, h2, h3⟩ := h
  exact ⟨A, h1, h2, h3.imp id fun ⟨d, fv, e, hs, hd, p⟩ => ⟨d, fv, e, hs, hx d fv hd, repX_pair f p⟩⟩
theorem LamOk.rd {S : Addr → Prop} {b : Addr} {q : Str} {τ : L2.St} {ds : List (Option D)} (f : ∀ x v, Rep K S H x v → Rep K S H' x v) (he : ∀ a φ, H a = some (.ext φ) → H' a = some (.ext φ)) (h : LamOk K S H b q τ ds) : LamOk K S H' b q τ ds := by
  obtain ⟨h1, h2, h3, h4⟩ := h
  refine ⟨h1, he b _ h2, h3, fun i x e => ?_⟩
  obtain ⟨v, e1, r⟩ := h4 i x e
  exact ⟨v, e1, f x v r⟩
theorem TabI.rd {S : Addr → Prop} {P : Addr} {q : Str} (he : ∀ a φ, H a = some (.ext φ) → H' a = some (.ext φ)) (e : H' P = H P) (h : TabI S H P q) : TabI S H' P q := by
  obtain ⟨ps, h1, h2, h3⟩ := h
  refine ⟨ps, e.trans h1, h2, fun pos cv z => ?_⟩
  obtain ⟨c, e1, e2, e3⟩ := h3 pos cv z
  exact ⟨c, e1, e2, he c _ e3⟩
theorem TabI.ne {S : Addr → Prop} {P b : Addr} {q : Str} {o : HO} (h : TabI S H P q) (e : H b = some o) (n : ∀ ps, o ≠ .tbl ps) : P ≠ b := by
  obtain ⟨ps, h1, _⟩ := h
  intro z
  rw [z, e] at h1
  exact n ps (Option.some.inj h1)
/-- what is read is the same while a dict is locked -/
theorem lock_rd (e : H d = some (.dK kws)) : (∀ a xs, H a = some (.lst xs) → upd H d (.frz o (.dK kws)) a = some (.lst xs)) ∧ (∀ a xs, PlT H a xs → PlT (upd H d (.frz o (.dK kws))) a xs) ∧ (∀ a vs, Rd H a (.dK vs) → Rd (upd H d (.frz o (.dK kws))) a (.dK vs)) ∧ ∀ a C dx fs, H a = some (.ins C dx fs) → upd H d (.frz o (.dK kws)) a = some (.ins C dx fs) := by
  refine ⟨fun a xs h => ?_, fun a xs ⟨u, h, z⟩ => ⟨u, ?_, z⟩, fun a vs h => ?_, fun a C dx fs h => by rw [upd_ne fun z => by rw [z, e] at h; cases h]; exact h⟩
  · rw [upd_ne fun z => by rw [z, e] at h; cases h]; exact h
  · rw [upd_ne fun z => by rw [z, e] at h; cases h]; exact h
  · by_cases z : a = d
    · subst z
      rcases h with h | ⟨u, h⟩
      · rw [e] at h; cases h
        exact .inr ⟨o, upd_same⟩
      · rw [e] at h; cases h
    · unfold Rd
      rw [upd_ne z]
      exact h
theorem unlock_rd (e : H d = some (.frz o (.dK kws))) : (∀ a xs, H a = some (.lst xs) → upd H d (.dK kws) a = some (.lst xs)) ∧ (∀ a xs, PlT H a xs → PlT (upd H d (.dK kws)) a xs) ∧ (∀ a vs, Rd H a (.dK vs) → Rd (upd H d (.dK kws)) a (.dK vs)) ∧ ∀ a C dx fs, H a = some (.ins C dx fs) → upd H d (.dK kws) a = some (.ins C dx fs) := by
  refine ⟨fun a xs h => ?_, fun a xs ⟨u, h, z⟩ => ⟨u, ?_, z⟩, fun a vs h => ?_, fun a C dx fs h => by rw [upd_ne fun z => by rw [z, e] at h; cases h]; exact h⟩
  · rw [upd_ne fun z => by rw [z, e] at h; cases h]; exact h
  · rw [upd_ne fun z => by rw [z, e] at h; cases h]; exact h
  · by_cases z : a = d
    · subst z
      rcases h with h | ⟨u, h⟩
      · rw [e] at h; cases h
      · rw [e] at h; cases h
        exact .inl upd_same
    · unfold Rd
      rw [upd_ne z]
      exact h
theorem NdOk.rd {K : PySem.W.Frag} {S : Addr → Prop} {H H' : Hp} {a : Addr} {nd : Nd} (f : ∀ d v, Rep K S H d v → Rep K S H' d v) (e : H' a = H a) (h : NdOk K S H a nd) : NdOk K S H' a nd := h.move e
theorem SI.lockD (I : SI G K c σ H ρ n) (hS : c.S d) (e : H d = some (.dK kws)) : SI G K (c.free d) σ (upd H d (.frz o (.dK kws))) ρ n := by
  obtain ⟨l1, l2, l3, l4⟩ := lock_rd (o := o) e
  have nS : ∀ a, ¬ c.S a → a ≠ d := fun a h z => h (z ▸ hS)
  have nO : ∀ i sv a, ρ[i]? = some sv → sv.isOwn = true → slot σ i = some (.ref a) → a ≠ d := fun i sv a h1 h2 h3 => nS a (I.own i sv a h1 h2 h3).1
  have H0e : ∀ a, a ≠ d → (c.free d).H0 a = c.H0 a := fun a h => if_neg h
  refine ⟨I.len, fun i sv h => ?_, fun i sv a h1 h2 h3 => ⟨(I.own i sv a h1 h2 h3).1, (H0e a (nO i sv a h1 h2 h3)).trans (I.own i sv a h1 h2 h3).2.1, (I.own i sv a h1 h2 h3).2.2⟩, I.apart, fun a h => ?_, fun a u h hp => ?_, fun p h => ?_, fun a h => ⟨(I.no a h).1, by rw [H0e a (nS a (I.no a h).1)]; exact (I.no a h).2⟩, fun q h => ⟨(I.tab q h).1, (I.tab q h).2.rd (fun b φ h => by rw [upd_ne fun z => by rw [z, e] at h; cases h]; exact h) (upd_ne ((I.tab q h).2.ne e fun _ z => nomatch z))⟩, fun a nd h => ⟨(I.mu a nd h).1.rd (Rep.rd (fun a xs _ => l1 a xs) (fun a xs _ => l2 a xs) ⟨fun a xs _ => l3 a xs, fun a C dx fs _ => l4 a C dx fs⟩) (upd_ne (nS a (I.mu a nd h).2.1)), (I.mu a nd h).2.1, (I.mu a nd h).2.2.1.imp id (H0e a (nS a (I.mu a nd h).2.1)).trans, (I.mu a nd h).2.2.2⟩, fun a h => ⟨(I.mu0 a h).1, by rw [H0e a (nS a (I.muS (I.mu0 a h).1).1)]; exact (I.mu0 a h).2⟩, I.mz⟩
  · have q := I.slots i sv h
    cases sv with
    | un => trivial
    | d x => obtain ⟨v, e1, r⟩ := q; exact ⟨v, e1, Rep.rd (fun a xs _ => l1 a xs) (fun a xs _ => l2 a xs) ⟨fun a xs _ => l3 a xs, fun a C dx fs _ => l4 a C dx fs⟩ _ _ r⟩
    | own xs => obtain ⟨a, vs, e1, r, z, q⟩ := q; exact ⟨a, vs, e1, l1 a _ r, z, Reps.rd (fun a xs _ => l1 a xs) (fun a xs _ => l2 a xs) ⟨fun a xs _ => l3 a xs, fun a C dx fs _ => l4 a C dx fs⟩ _ _ q⟩
    | ownK xs => obtain ⟨a, vs, e1, r, q⟩ := q; exact ⟨a, vs, e1, by rw [upd_ne (nO i _ a h rfl e1)]; exact r, RepK.rd (fun a xs _ => l1 a xs) (fun a xs _ => l2 a xs) ⟨fun a xs _ => l3 a xs, fun a C dx fs _ => l4 a C dx fs⟩ _ _ q⟩
    | pen => exact q
    | exc x => obtain ⟨a, cls, dd, e1, hs, ha, A, x1, x2, x3⟩ := q; exact ⟨a, cls, dd, e1, hs, by rw [upd_ne fun z => by rw [z, e] at ha; cases ha]; exact ha, RepX.rd (Rep.rd (fun a xs _ => l1 a xs) (fun a xs _ => l2 a xs) ⟨fun a xs _ => l3 a xs, fun a C dx fs _ => l4 a C dx fs⟩) (fun b fv h => by rw [upd_ne fun z => by rw [z, e] at h; cases h]; exact h) ⟨A, x1, x2, x3⟩⟩
    | lam f b q' σ' ds => obtain ⟨e1, c1, c2, c3, c4⟩ := q; exact ⟨e1, LamOk.rd (Rep.rd (fun a xs _ => l1 a xs) (fun a xs _ => l2 a xs) ⟨fun a xs _ => l3 a xs, fun a C dx fs _ => l4 a C dx fs⟩) (fun b φ h => by rw [upd_ne fun z => by rw [z, e] at h; cases h]; exact h) ⟨c1, c2, c3, c4⟩⟩
    | o _ => exact q
  · by_cases z : a = d
    · rw [z, upd_same]; exact fun w => nomatch w
    · rw [upd_ne z]; exact I.dom a h
  · have h : (if a = d then none else c.H0 a) = some u := h
    split at h
    · cases h
    · rename_i z
      rw [upd_ne z]
      exact I.fr a u h hp
  · obtain ⟨h1, h2, h3, h4, h5⟩ := I.pen p h
    exact ⟨G.dep h1 (upd_ne (nS _ h2)) (upd_ne (nS _ h3)), h2, h3, by rw [H0e _ (nS _ h2)]; exact h4, by rw [H0e _ (nS _ h3)]; exact h5⟩
theorem SI.unlockD {S' : Addr → Prop} (I : SI G K c σ H ρ n) (hS : c.S d) (e : H d = some (.dK kws)) (g : Grow c.S S' (upd H d (.frz o (.dK kws))) H') (J : SI G K ((c.free d).to S') σ H' ρ k) :
    SI G K (c.to S') σ (upd H' d (.dK kws)) ρ k ∧ Grow c.S S' H (upd H' d (.dK kws)) ∧ H' d = some (.frz o (.dK kws)) := by
  have e' : H' d = some (.frz o (.dK kws)) := (g.eq d hS).trans upd_same
  obtain ⟨l1, l2, l3, l4⟩ := unlock_rd e'
  have hS' : S' d := g.sub d hS
  have nS : ∀ a, ¬ S' a → a ≠ d := fun a h z => h (z ▸ hS')
  have nO : ∀ i sv a, ρ[i]? = some sv → sv.isOwn = true → slot σ i = some (.ref a) → a ≠ d := fun i sv a h1 h2 h3 => nS a (J.own i sv a h1 h2 h3).1
  refine ⟨⟨J.len, fun i sv h => ?_, fun i sv a h1 h2 h3 => ⟨(J.own i sv a h1 h2 h3).1, (I.own i sv a h1 h2 h3).2.1, (J.own i sv a h1 h2 h3).2.2⟩, J.apart, fun a h => ?_, fun a u h hp => ?_, fun p h => ?_, fun a h => ⟨(J.no a h).1, (I.no a h).2⟩, fun q h => ⟨(J.tab q h).1, (J.tab q h).2.rd (fun b φ h => by rw [upd_ne fun z => by rw [z, e'] at h; cases h]; exact h) (upd_ne ((J.tab q h).2.ne e' fun _ z => nomatch z))⟩, fun a nd h => ⟨(J.mu a nd h).1.rd (Rep.rd (fun a xs _ => l1 a xs) (fun a xs _ => l2 a xs) ⟨fun a xs _ => l3 a xs, fun a C dx fs _ => l4 a C dx fs⟩) (upd_ne (nS a (J.mu a nd h).2.1)), (J.mu a nd h).2.1, (J.mu a nd h).2.2.1.imp id (fun w => (if_neg (nS a (J.mu a nd h).2.1)).symm.trans w), (J.mu a nd h).2.2.2⟩, fun a h => ⟨(J.mu0 a h).1, (I.mu0 a h).2⟩, J.mz⟩, ⟨g.sub, fun a h => ?_⟩, e'⟩
  · have q := J.slots i sv h
    cases sv with
    | un => trivial
    | d x => obtain ⟨v, e1, r⟩ := q; exact ⟨v, e1, Rep.rd (fun a xs _ => l1 a xs) (fun a xs _ => l2 a xs) ⟨fun a xs _ => l3 a xs, fun a C dx fs _ => l4 a C dx fs⟩ _ _ r⟩
    | own xs => obtain ⟨a, vs, e1, r, z, q⟩ := q; exact ⟨a, vs, e1, l1 a _ r, z, Reps.rd (fun a xs _ => l1 a xs) (fun a xs _ => l2 a xs) ⟨fun a xs _ => l3 a xs, fun a C dx fs _ => l4 a C dx fs⟩ _ _ q⟩
    | ownK xs => obtain ⟨a, vs, e1, r, q⟩ := q; exact ⟨a, vs, e1, by rw [upd_ne (nO i _ a h rfl e1)]; exact r, RepK.rd (fun a xs _ => l1 a xs) (fun a xs _ => l2 a xs) ⟨fun a xs _ => l3 a xs, fun a C dx fs _ => l4 a C dx fs⟩ _ _ q⟩
    | pen => exact q
    | exc x => obtain ⟨a, cls, dd, e1, hs, ha, A, x1, x2, x3⟩ := q; exact ⟨a, cls, dd, e1, hs, by rw [upd_ne fun z => by rw [z, e'] at ha; cases ha]; exact ha, RepX.rd (Rep.rd (fun a xs _ => l1 a xs) (fun a xs _ => l2 a xs) ⟨fun a xs _ => l3 a xs, fun a C dx fs _ => l4 a C dx fs⟩) (fun b fv h => by rw [upd_ne fun z => by rw [z, e'] at h; cases h]; exact h) ⟨A, x1, x2, x3⟩⟩
    | lam f b q' σ' ds => obtain ⟨e1, c1, c2, c3, c4⟩ := q; exact ⟨e1, LamOk.rd (Rep.rd (fun a xs _ => l1 a xs) (fun a xs _ => l2 a xs) ⟨fun a xs _ => l3 a xs, fun a C dx fs _ => l4 a C dx fs⟩) (fun b φ h => by rw [upd_ne fun z => by rw [z, e'] at h; cases h]; exact h) ⟨c1, c2, c3, c4⟩⟩
    | o _ => exact q
  · by_cases z : a = d
    · rw [z, upd_same]; exact fun w => nomatch w
    · rw [upd_ne z]; exact J.dom a h
  · by_cases z : a = d
    · subst z
      have q := I.fr a u h hp
      rw [e] at q
      rw [upd_same]
      exact q
    · rw [upd_ne z]
      exact J.fr a u (show (if a = d then none else c.H0 a) = some u by rw [if_neg z]; exact h) hp
  · obtain ⟨h1, h2, h3, _, _⟩ := J.pen p h
    obtain ⟨_, _, _, h4, h5⟩ := I.pen p h
    exact ⟨G.dep h1 (upd_ne (nS _ h2)) (upd_ne (nS _ h3)), h2, h3, h4, h5⟩
  · by_cases z : a = d
    · rw [z, upd_same, e]
    · rw [upd_ne z, g.eq a h, upd_ne z]
end
end PL

/-! [.. for key in d ..] -/
namespace PL
open PySem PySem.Spec L2
theorem walks_keysD {G : PenK} {K : PySem.W.Frag} {S : Addr → Prop} {H : Hp} {a : Addr} {o : Obj} {kvs : List (Key × D)} {kws : List (Key × V)} (hS : S a) (e : H a = some (.frz o (.dK kws))) (r : RepK K S H kvs kws) (hz : ∀ kv ∈ kvs, ∀ s, kv.1 = .inr s → s.length ≤ sizeLine) :
    Walks G K (Itk a o kws) S H (kvs.map fun kv => keyV kv.1) := fun c ρ σ H2 n i g I => by
  have e2 : H2 a = some (.frz o (.dK kws)) := (g.eq a hS).trans e
  have r2 := RepK.keys (RepK.grow g _ _ r) hz
  have hl := r.len
  rw [List.length_map]
  refine ⟨fun hi => ?_, fun hi => ⟨e2, by omega⟩⟩
  have hx : (kvs.map fun kv => keyV kv.1)[i]? = some ((kvs.map fun kv => keyV kv.1)[i]'(by rw [List.length_map]; exact hi)) := List.getElem?_eq_getElem _
  obtain ⟨v, e3, r3⟩ := Reps.at r2 hx
  refine ⟨⟨e2, by omega⟩, fun u H' ⟨eH, k, v', e4, eu⟩ => ⟨c.S, _, eH ▸ .refl, eH ▸ I, hx, ?_⟩⟩
  rw [List.getElem?_map, e4] at e3
  cases e3
  rw [eH, eu]
  exact r3
section
variable {G : PenK} {X : Cx} {Wx : WX}
theorem pe_or {e : Expr} {t1 t2 : TE} (h1 : PE X e t1) (h2 : PE X e t2) : PE X e (fun σ H Q => t1 σ H Q ∨ t2 σ H Q) := ⟨fun pins s σ H Q I h => h.elim (h1.run pins s σ H Q I) (h2.run pins s σ H Q I)⟩
theorem o_lcK {elt tg : Expr} {x : Str} {px : Pos} {ifs : List Expr} {scope : Scope} {own : List (Str × Nat)} {pos : Pos} {t : Tg} {gt : Env → W Bool} {ge : Env → W D} (i : Nat) (hc : X.calm = true) (hN : X.N.Nodup) (ok : BlkOk X.N X.env.scope scope own)
    (hg : ∀ (s : Shared) (H : Hp) (A : Addr) (cl : List (Str × Addr)) (fp : List Addr), PTg (X.blk s H scope (compEnvC scope cl A X.env) fp) tg t) (ht : ∀ (s : Shared) (H : Hp) (A : Addr) (cl : List (Str × Addr)) (fp : List Addr), Ts G (X.blk s H scope (compEnvC scope cl A X.env) fp) ifs gt)
    (he : ∀ (s : Shared) (H : Hp) (A : Addr) (cl : List (Str × Addr)) (fp : List Addr), E G (X.blk s H scope (compEnvC scope cl A X.env) fp) WF elt ge) (hi : X.N[i]? = some x := by rfl) (hv : Vis X.env.scope x := by first | exact Or.inl rfl | exact Or.inr (Or.inl rfl) | exact Or.inr (Or.inr rfl)) (hd : (x == ("__debug__" : Str)) = false := by decide)
    (hcd : (x == ("__classdict__" : Str)) = false := by decide) (hix : ∀ i ∈ t.ix, i ∈ own.map (·.2) := by decide) (hs : ∀ y, foldedSetIterable (.Name x px) X.env y = pure y := by intro _; rfl) :
    EO G X Wx (.ListComp elt [⟨tg, .Name x px, ifs, 0⟩] scope pos) (fun ρ => bnd (nm ρ i) fun d => bnd (keysD d) fun xs => few xs (grd (noOwn (own.map (·.2)) ρ = true) (quiet (compW t gt ge (wip (own.map (·.2)) ρ) xs)))) := by
  have base := pe_lc (g := gT X.K t) (tt := tT G X WF gt) (te := tE G X WF ge) hc hN (pi_keys (X := X) (tg := tg) (pe_var (pos := px) hi hv hd hcd)) ok hg ht he (pos := pos) hs
  refine weakE (pe_or base (pe_lock base)) fun σ H Q ⟨c, ρ, n, P, PX, I, q, hgo, hx⟩ => ?_
  obtain ⟨d, e, q⟩ := nm_inv (show bnd (nm ρ i) (fun d => bnd (keysD d) fun xs => few xs (grd (noOwn (own.map (·.2)) ρ = true) (quiet (compW t gt ge (wip (own.map (·.2)) ρ) xs)))) n P PX from q)
  obtain ⟨v, e1, r⟩ := I.slots i _ e
  cases d with
  | dic kvs =>
    obtain ⟨a, kws, rfl, ⟨hS, rd⟩, rk⟩ := r
    obtain ⟨⟨z1, z2⟩, z3, hno, p⟩ := q
    rcases rd with hd1 | ⟨o, hd1⟩
    · refine .inr ⟨a, .dK kws, hd1, True.intro, fun od => ⟨.ref a, slot_some e1, a, od, rfl, .inl ⟨kws, upd_same, ?_⟩⟩⟩
      have I2 := I.lockD (o := od) hS hd1
      obtain ⟨l1, l2, l3, l4⟩ := lock_rd (o := od) hd1
      refine lc_body (Q := fun v H' => H' a = some (.frz od (.dK kws)) ∧ Q v (upd H' a (.dK kws))) (c := c.free a) (S' := c.S) (H := upd H a (.frz od (.dK kws))) hix (fun ys k b vs S' H' p g I' e z r f => ?_) z3 hno p .refl I2 (walks_keysD hS upd_same (RepK.rd (fun a xs _ => l1 a xs) (fun a xs _ => l2 a xs) ⟨fun a xs _ => l3 a xs, fun a C dx fs _ => l4 a C dx fs⟩ _ _ rk) z2)
      obtain ⟨I3, g3, e3⟩ := I.unlockD hS hd1 g I'
      obtain ⟨m1, m2, m3, m4⟩ := unlock_rd e3
      have nb : b ≠ a := fun w => by rw [w, e3] at e; cases e
      refine ⟨e3, hgo ys k b vs S' _ p g3 I3 (by rw [upd_ne nb]; exact e) z (Reps.rd (fun a xs _ => m1 a xs) (fun a xs _ => m2 a xs) ⟨fun a xs _ => m3 a xs, fun a C dx fs _ => m4 a C dx fs⟩ _ _ r) ⟨⟨f.1.1, ?_⟩, f.2⟩⟩
      have := f.1.2
      rwa [show ((c.free a).to S').H0 b = c.H0 b from if_neg nb] at this
    · exact .inl ⟨.ref a, slot_some e1, a, o, rfl, .inl ⟨kws, hd1, lc_body (c := c) (S' := c.S) (H := H) hix hgo z3 hno p .refl I (walks_keysD hS hd1 rk z2)⟩⟩
  | _ => exact False.elim q
/-- .. over the values that the target takes -/
theorem o_lcKQ {α : Type} {elt tg : Expr} {x : Str} {px : Pos} {ifs : List Expr} {scope : Scope} {own : List (Str × Nat)} {pos : Pos} {t : Tg} {gt : Env → W Bool} {ge : Env → W D} {mu : D → W α} {ee : α → Env → Env} (i : Nat) (hsT : ∀ x ρ, setT t x ρ = bnd (mu x) fun a => ret (ee a ρ)) (hc : X.calm = true) (hN : X.N.Nodup) (ok : BlkOk X.N X.env.scope scope own)
    (hg : ∀ (s : Shared) (H : Hp) (A : Addr) (cl : List (Str × Addr)) (fp : List Addr), PTg (X.blk s H scope (compEnvC scope cl A X.env) fp) tg t) (ht : ∀ (s : Shared) (H : Hp) (A : Addr) (cl : List (Str × Addr)) (fp : List Addr), Ts G (X.blk s H scope (compEnvC scope cl A X.env) fp) ifs gt)
    (he : ∀ (s : Shared) (H : Hp) (A : Addr) (cl : List (Str × Addr)) (fp : List Addr), E G (X.blk s H scope (compEnvC scope cl A X.env) fp) WF elt ge) (hi : X.N[i]? = some x := by rfl) (hv : Vis X.env.scope x := by first | exact Or.inl rfl | exact Or.inr (Or.inl rfl) | exact Or.inr (Or.inr rfl)) (hd : (x == ("__debug__" : Str)) = false := by decide)
    (hcd : (x == ("__classdict__" : Str)) = false := by decide) (hix : ∀ i ∈ t.ix, i ∈ own.map (·.2) := by decide) (hs : ∀ y, foldedSetIterable (.Name x px) X.env y = pure y := by intro _; rfl) :
    EO G X Wx (.ListComp elt [⟨tg, .Name x px, ifs, 0⟩] scope pos) (fun ρ => bnd (bnd (nm ρ i) keysD) (compM mu ee (own.map (·.2)) gt ge ρ)) :=
  (o_lcK i hc hN ok hg ht he hi hv hd hcd hix hs).eq (by
    funext ρ
    rw [bnd_bnd]
    congr 1
    funext d
    congr 1
    funext xs
    exact compM_eq (f := fun x => x) (tt := fun xs => xs) (fun _ => by simp) hsT _ _ _ _ _)
end
end PL

/-! sorted of pairs (text, int). -/
namespace PL
open PySem PySem.Spec PyProof.Rows L2
open SrtO hiding Str
def lexS (p q : Str × Int) : Bool := if p.1 = q.1 then decide (p.2 < q.2) else decide (p.1.cps.toList < q.1.cps.toList)
theorem cps_inj {a b : Str} (h : a.cps.toList = b.cps.toList) : a = b := PL.str_ext h
theorem lexS_iff {p q : Str × Int} : lexS p q = true ↔ p.1.cps.toList < q.1.cps.toList ∨ (p.1 = q.1 ∧ p.2 < q.2) := by
  unfold lexS
  by_cases e : p.1 = q.1
  · rw [if_pos e, decide_eq_true_eq, e]
    exact ⟨fun h => .inr ⟨rfl, h⟩, fun h => h.elim (fun z => absurd z (List.lt_irrefl _)) (·.2)⟩
  · rw [if_neg e, decide_eq_true_eq]
    exact ⟨.inl, fun h => h.elim id fun z => absurd z.1 e⟩
theorem lexS_no {p q : Str × Int} : lexS p q = false ↔ ¬ (p.1.cps.toList < q.1.cps.toList ∨ (p.1 = q.1 ∧ p.2 < q.2)) := by
  rw [← lexS_iff]
  cases lexS p q <;> simp
theorem swo_lexS (k : Value → Str × Int) : Swo fun v u => lexS (k v) (k u) := by
  refine ⟨fun x y h => ?_, fun x y z h1 h2 => ?_⟩
  · have a := lexS_iff.mp h
    refine lexS_no.mpr fun b => ?_
    rcases a with a | ⟨a, a2⟩
    · rcases b with b | ⟨b, _⟩
      · exact List.lt_asymm a b
      · rw [b] at a; exact List.lt_irrefl _ a
    · rcases b with b | ⟨b, b2⟩
      · rw [a] at b; exact List.lt_irrefl _ b
      · omega
  · have a := lexS_no.mp h1
    have b := lexS_no.mp h2
    refine lexS_no.mpr fun c => ?_
    have a1 : ¬ (k y).1.cps.toList < (k x).1.cps.toList := fun z => a (.inl z)
    have b1 : ¬ (k z).1.cps.toList < (k y).1.cps.toList := fun z => b (.inl z)
    have le1 : (k x).1.cps.toList ≤ (k y).1.cps.toList := List.not_lt.mp a1
    have le2 : (k y).1.cps.toList ≤ (k z).1.cps.toList := List.not_lt.mp b1
    rcases c with c | ⟨c, c2⟩
    · exact List.not_lt.mpr (List.le_trans le1 le2) c
    · have e1 : (k x).1 = (k y).1 := cps_inj (List.le_antisymm le1 (by rw [← c]; exact le2))
      have e2 : (k y).1 = (k z).1 := e1.symm.trans c.symm
      have a2 : ¬ (k y).2 < (k x).2 := fun w => a (.inr ⟨e1.symm, w⟩)
      have b2 : ¬ (k z).2 < (k y).2 := fun w => b (.inr ⟨e2.symm, w⟩)
      omega
def IsSI (h : Heap) (v : Value) (x : Str) (y : Int) : Prop := ∃ a o t u n, v = .ref a ∧ h.get? a = some o ∧ o.cls = .type "tuple" ∧ o.data = .seq #[.str x t, .int y u] n
theorem IsSI.keeps {h h' : Heap} {v : Value} {x : Str} {y : Int} (p : IsSI h v x y) (k : ∀ b o, h.get? b = some o → o.cls = .type "tuple" → h'.get? b = some o) : IsSI h' v x y := by
  obtain ⟨a, o, t, u, n, e, ho, hc, hd⟩ := p
  exact ⟨a, o, t, u, n, e, k _ _ ho hc, hc, hd⟩
section
variable {prog : Program} {w : World} {A : Around} {E : Value → Shared → Prop} {s : Shared}
theorem si_cmp {vs : List Value} {k : Value → Str × Int} (hp : ∀ v ∈ vs, IsSI s.heap v (k v).1 (k v).2) : Cmp prog w A s (tuples' true) (fun p => p.1 ∈ vs) (lt2 fun v u => lexS (k v) (k u)) := by
  intro p q hm hm'
  have h1 := hp _ hm
  have h2 := hp _ hm'
  show wpAny (model prog w) A (keyLt' (tuples' true) p.1 q.1) (fun r s' => s' = s ∧ r = lexS (k p.1) (k q.1)) (fun _ _ => False) s
  unfold lexS
  generalize (k p.1).1 = x at h1 ⊢
  generalize (k p.1).2 = y at h1 ⊢
  generalize (k q.1).1 = x' at h2 ⊢
  generalize (k q.1).2 = y' at h2 ⊢
  obtain ⟨a, o, t, u, n, e, ho, hc, hd⟩ := h1
  obtain ⟨a', o', t', u', n', e', ho', hc', hd'⟩ := h2
  rw [e, e']
  refine PySem.W.kat_lt ho hd ho' hd' ?_
  show PySem.W.KatLex prog w A true (decide (2 < 2)) _ [(.str x t, .str x' t'), (.int y u, .int y' u')] 0 s
  refine PySem.W.kat_cons (SeqAt.EqAt.str_str x t x' t' prog w _ _ ?_)
  refine PySem.W.kat_go (fun e1 => ?_) (fun e1 => ?_)
  · have ex : x = x' := by simpa using e1
    refine PySem.W.kat_yes (PySem.W.kat_cons (SeqAt.EqAt.int_int y u y' u' prog w _ _ ?_))
    refine PySem.W.kat_go (fun e2 => ?_) (fun e2 => ?_)
    · have ey : y = y' := by simpa using e2
      have e3 : (if x = x' then decide (y < y') else decide (x.cps.toList < x'.cps.toList)) = false := by
        rw [if_pos ex, ey]
        exact decide_eq_false (Int.lt_irrefl _)
      exact PySem.W.kat_yes (PySem.W.kat_nil ⟨rfl, e3.symm⟩)
    · have e3 : (if x = x' then decide (y < y') else decide (x.cps.toList < x'.cps.toList)) = decide (y < y') := if_pos ex
      refine PySem.W.kat_no (PySem.W.kat_one _ _ (PyProof.Rows.lt_int ?_))
      exact (show s = s ∧ decide (y < y') = (if x = x' then decide (y < y') else decide (x.cps.toList < x'.cps.toList)) from ⟨rfl, e3.symm⟩)
  · have ex : ¬ x = x' := by simpa using e1
    have e3 : (if x = x' then decide (y < y') else decide (x.cps.toList < x'.cps.toList)) = decide (x.cps.toList < x'.cps.toList) := if_neg ex
    exact PySem.W.kat_no (oneLt_str ⟨rfl, e3.symm⟩)
theorem si_firsts {h : Heap} : ∀ {vs : List Value}, (∀ v ∈ vs, ∃ x y, IsSI h v x y) → ∃ fs : List Value, PySem.W.KatTups h vs fs ∧ fs.length = vs.length ∧ ∀ f ∈ fs, ∃ x t, f = Value.str x t
  | [], _ => ⟨[], PySem.W.KatTups.nil, rfl, fun _ hm => by simp at hm⟩
  | v :: vs, hp => by
    obtain ⟨fs, h1, h2, h3⟩ := si_firsts (vs := vs) fun v' hm => hp v' (List.mem_cons_of_mem _ hm)
    obtain ⟨x, y, a, o, t, u, n, e, ho, hc, hd⟩ := hp v (List.mem_cons_self ..)
    subst e
    refine ⟨.str x t :: fs, PySem.W.KatTups.cons ho hc hd rfl h1, by rw [List.length_cons, List.length_cons, h2], fun f hm => ?_⟩
    rcases List.mem_cons.mp hm with rfl | hm
    · exact ⟨x, t, rfl⟩
    · exact h3 f hm
theorem si_sortable {a : Addr} {vs : List Value} {k : Value → Str × Int} (h0 : 0 < vs.length) (hp : ∀ v ∈ vs, IsSI s.heap v (k v).1 (k v).2) (ha : ∀ o, s.heap.get? a = some o → o.cls ≠ .type "tuple") : SortableO prog w A s a vs fun v u => lexS (k v) (k u) := by
  intro h' keep
  have hp' : ∀ v ∈ vs, IsSI h' v (k v).1 (k v).2 := fun v hm => (hp v hm).keeps fun b o e c => keep b o (fun z => by subst z; exact ha o e c) e
  obtain ⟨fs, h1, h2, h3⟩ := si_firsts fun v hm => ⟨_, _, hp' v hm⟩
  refine ⟨tuples' true, fun Q E hq => ?_, si_cmp hp'⟩
  refine PySem.W.kat_kind (T := .type "str") h1 (by omega) (fun f hm => ?_) (by rfl) ?_
  · obtain ⟨x, t, rfl⟩ := h3 f hm
    exact PySem.W.Looks.now
  · have e : (Value.type "str" != Value.type "tuple") = true := by first | decide +kernel | rfl | decide
    rw [e]
    exact hq
end
def kOf (h : Heap) : Value → Str × Int
  | .ref a => match h.get? a with
    | some o => match o.data with
      | .seq xs _ => match xs.toList with
        | [.str x _, .int y _] => (x, y)
        | _ => (Str.ofString "", 0)
      | _ => (Str.ofString "", 0)
    | none => (Str.ofString "", 0)
  | _ => (Str.ofString "", 0)
section
variable {X : Cx} {pins : List (Addr × Obj)} {σ : L2.St} {H : Hp} {s : Shared}
end
def siL : List D → Option (List (Str × Int))
  | [] => some []
  | x :: r => match x with
    | .tup [.str s, .int i] => (siL r).map fun l => (s, i) :: l
    | _ => none
section
variable {G : PenK} {X : Cx} {Wx : WX}
end
end PL

/-! a, b = x, y with local names: no pair is made. -/
namespace PL
open PySem PySem.Spec L2
def unpL2 : List D → W (D × D)
  | [a, b] => ret (a, b)
  | _ => stuck
section
variable {G : PenK} {X : Cx} {Wx : WX} {γ : Type} {En : Enz γ} {ρ : Env} {rest : List Stmt} {m : W γ}
theorem s_par {x y : Str} {a b : Expr} {px py pt pos : Pos} {kt : Nat} {k2 : Nat} {pt2 : Pos} {gs : Env → W (List D)} (i j : Nat) (hc : X.calm = true) (hN : X.N.Nodup) (h : A G X Wx [a, b] gs) (hi : X.N[i]? = some x) (hj : X.N[j]? = some y) (hij : i ≠ j)
    (hx : X.env.scope.names.lookup x = some .local) (hy : X.env.scope.names.lookup y = some .local)
    (hw : swappedStores [.Tuple [.Name x px, .Name y py] kt pt] (.Tuple [a, b] k2 pt2) X.env = pure (some [x, y])) (hs : swapsWithSole [.Tuple [.Name x px, .Name y py] kt pt] (.Tuple [a, b] k2 pt2) pos.line X.env = pure false) :
    St1 G X Wx (.Assign [.Tuple [.Name x px, .Name y py] kt pt] (.Tuple [a, b] k2 pt2) pos) (fun ρ => bnd (bnd (gs ρ) unpL2) fun p => ret (.nx ((ρ.set i (.d p.1)).set j (.d p.2)))) :=
  weakS (ps_par hc hN hi hj hij hx hy h hw hs) fun Dn σ H ⟨c, ρ, n, P, PX, I, q, hg, hx⟩ => tAr.bnd (α := Out) (P := P) (f := fun ds => bnd (unpL2 ds) fun p => ret (Out.nx ((ρ.set i (.d p.1)).set j (.d p.2)))) I q hx.x fun ds k vs S' H' p g I' hx' r => by
    match ds, r, p with
    | [d1, d2], r, p =>
      obtain ⟨v, w, rfl, r1, r2⟩ := r.two_inv
      exact ⟨v, w, rfl, hg.1 _ k _ S' H' p g ((I'.set (i := i) r1).set (i := j) r2)⟩
    | [], _, p => exact False.elim p
    | [_], _, p => exact False.elim p
    | _ :: _ :: _ :: _, _, p => exact False.elim p
theorem sg_par2 {x y : Str} {a b : Expr} {px py pt pos : Pos} {kt : Nat} {k2 : Nat} {pt2 : Pos} {gs : Env → W (List D)} {α : Type} {m0 : W α} {f1 f2 : α → D} {k : α → W γ} {ρ' : α → Env} (i j L : Nat) (h : A G X Wx [a, b] gs) (hc : X.calm = true) (hN : X.N.Nodup) (hg : bnd (gs ρ) unpL2 = bnd m0 fun a => ret (f1 a, f2 a)) (inj : ∀ a b, f1 a = f1 b → f2 a = f2 b → a = b) (hL : ρ.length = L) (hi : i < L) (hj : j < L) (hij : j ≠ i) (hρ : ∀ a, (ρ.set i (.d (f1 a))).set j (.d (f2 a)) = ρ' a) (hr : ∀ a, SG G X Wx rest (ρ' a) En (k a))
    (hi2 : X.N[i]? = some x := by rfl) (hj2 : X.N[j]? = some y := by rfl) (hx : X.env.scope.names.lookup x = some .local := by rfl) (hy : X.env.scope.names.lookup y = some .local := by rfl)
    (hw : swappedStores [.Tuple [.Name x px, .Name y py] kt pt] (.Tuple [a, b] k2 pt2) X.env = pure (some [x, y]) := by rfl) (hs : swapsWithSole [.Tuple [.Name x px, .Name y py] kt pt] (.Tuple [a, b] k2 pt2) pos.line X.env = pure false := by rfl) :
    SG G X Wx (.Assign [.Tuple [.Name x px, .Name y py] kt pt] (.Tuple [a, b] k2 pt2) pos :: rest) ρ En (bnd m0 k) :=
  sg_stmt (e := fun a => (ρ.set i (.d (f1 a))).set j (.d (f2 a))) (s_par i j hc hN h hi2 hj2 (Ne.symm hij) hx hy hw hs) (by
    rw [hg, bnd_bnd]
    rfl) (fun a b hab => by
    have q := congrArg (·[j]?) hab
    simp only [List.getElem?_set_self (show j < (ρ.set i (SV.d (f1 a))).length by simp [hL, hj]), List.getElem?_set_self (show j < (ρ.set i (SV.d (f1 b))).length by simp [hL, hj])] at q
    have q2 := congrArg (·[i]?) hab
    simp only [List.getElem?_set_ne hij, List.getElem?_set_self (show i < ρ.length by rw [hL]; exact hi)] at q2
    exact inj a b (SV.d.inj (Option.some.inj q2)) (SV.d.inj (Option.some.inj q))) fun a => by rw [hρ]; exact hr a
end
end PL

/-! range(a, b, -1); a, b, c, d = e. -/
namespace PL
open PySem PySem.Spec L2
def rngDn (lo : Int) (n : Nat) : List Int := (List.range n).map fun i => lo + (i : Nat) * (-1)
def rngM (i j : Int) : W (List Int) := grd (inR i ∧ inR j) (ret (rngDn i (i - j).toNat))
def rngDM : D → D → W (List Int)
  | .int i, .int j => rngM i j
  | _, _ => stuck
theorem rngDn_len (lo : Int) (n : Nat) : (rngDn lo n).length = n := by unfold rngDn; rw [List.length_map, List.length_range]
theorem walks_rngDn {G : PenK} {K : PySem.W.Frag} {S : Addr → Prop} {H : Hp} {lo : Int} {n : Nat} : Walks G K (Itc lo (-1) n) S H ((rngDn lo n).map .int) := fun c ρ σ H2 k i g I => by
  rw [List.length_map, rngDn_len]
  refine ⟨fun hi => ⟨hi, fun v H' ⟨e1, e2⟩ => ⟨c.S, .int (lo + (i : Nat) * (-1)), e1 ▸ .refl, e1 ▸ I, ?_, e2⟩⟩, fun hi => hi⟩
  unfold rngDn
  rw [List.getElem?_map, List.getElem?_map, List.getElem?_range hi]
  rfl
theorem Reps.three_inv {K : PySem.W.Frag} {S : Addr → Prop} {H : Hp} {a b c : D} {vs : List V} (h : Reps K S H [a, b, c] vs) : ∃ u v w, vs = [u, v, w] ∧ Rep K S H a u ∧ Rep K S H b v ∧ Rep K S H c w := by
  obtain ⟨u, r1, rfl, h1, v, r2, rfl, h2, w, r3, rfl, h3, h4⟩ := h
  have h4 : r3 = [] := h4
  subst h4
  exact ⟨u, v, w, rfl, h1, h2, h3⟩
section
variable {G : PenK} {X : Cx} {Wx : WX}
def rng3 (ds : List D) : W (List D) := match ds with
  | [x, y, .int z] => grd (z = -1) (bnd (rngDM x y) fun ys => ret (ys.map D.int))
  | _ => stuck
theorem rngDM_inv {x y : D} {n : Nt} {P : List Int → Nt → Prop} {PX : Exc → Nt → Prop} (h : rngDM x y n P PX) : ∃ i j, x = .int i ∧ y = .int j ∧ rngM i j n P PX := by
  unfold rngDM at h
  split at h
  · exact ⟨_, _, rfl, rfl, h⟩
  · exact h.elim
theorem rng3_inv {ds : List D} {n : Nt} {P : List D → Nt → Prop} {PX : Exc → Nt → Prop} (h : rng3 ds n P PX) : ∃ i j, ds = [.int i, .int j, .int (-1)] ∧ (inR i ∧ inR j) ∧ P ((rngDn i (i - j).toNat).map D.int) n := by
  unfold rng3 at h
  split at h
  · obtain ⟨rfl, h⟩ := h
    obtain ⟨i, j, rfl, rfl, z, p⟩ := rngDM_inv h
    exact ⟨i, j, rfl, z, p⟩
  · exact h.elim
theorem w_rngMZ {tg a b c : Expr} {p pos : Pos} {ga gb gc : Env → W D} (hm : X.mg "range" = none) (ha : E G X Wx a ga) (hb : E G X Wx b gb) (hc : E G X Wx c gc) (h1 : ∀ ρ, gc ρ = ret (.int (-1))) (hg : Gl X "range" := by rfl)
    (hs : starEach [a, b, c] X.env = (false, eval a X.env) :: starEach [b, c] X.env := by rfl) (hs2 : starEach [b, c] X.env = (false, eval b X.env) :: starEach [c] X.env := by rfl) (hs3 : starEach [c] X.env = (false, eval c X.env) :: starEach [] X.env := by rfl) (hpl : (backTo pos (starEach [b, c] X.env)).any (·.1) = false := by rfl) :
    Wk G X Wx tg (.Call (.Name "range" p) [a, b, c] [] pos) (fun ρ => bnd (bnd (ga ρ) fun x => bnd (gb ρ) fun y => rngDM x y) fun ys => ret (ys.map .int)) :=
  weakI (pi_range3 hg hm (a_cons ha (a_cons hb (a_cons hc a_nil hs3) hs2) hs) hs hpl) fun σ H R ⟨cc, ρ, n, P, PX, I, q, hgo, hx⟩ => by
    have e : (bnd (bnd (ga ρ) fun x => bnd (gb ρ) fun y => rngDM x y) fun ys => ret (ys.map D.int) : W (List D)) = bnd (bnd (ga ρ) fun x => bnd (bnd (gb ρ) fun x => bnd (bnd (gc ρ) fun x => bnd (ret []) fun xs => ret (x :: xs)) fun xs => ret (x :: xs)) fun xs => ret (x :: xs)) rng3 := by
      rw [h1]
      simp only [bnd_bnd, bnd_ret]
      congr 1
      funext x
      congr 1
      funext y
      exact (grd_pos rfl _).symm
    have q : bnd (bnd (ga ρ) fun x => bnd (gb ρ) fun y => rngDM x y) (fun ys => ret (ys.map D.int)) n P PX := q
    rw [e] at q
    refine tAr.bnd (g := fun ρ => bnd (ga ρ) fun x => bnd (bnd (gb ρ) fun x => bnd (bnd (gc ρ) fun x => bnd (ret []) fun xs => ret (x :: xs)) fun xs => ret (x :: xs)) fun xs => ret (x :: xs)) (f := rng3) I q hx fun ds k vs S' H' p g I' hx' r => ?_
    obtain ⟨i, j, rfl, ⟨z1, z2⟩, p⟩ := rng3_inv p
    obtain ⟨u, v, w, rfl, rfl, rfl, rfl⟩ := r.three_inv
    exact ⟨i, j, -1, _, rfl, RgC.neg z1.1 z1.2 z2.1 z2.2, hgo _ k S' H' _ p g I' walks_rngDn⟩
end
end PL

/-! zip of two lists or two tuples: each pair told by its object. -/
namespace PL
open PySem PySem.Spec PyProof.Rows L2 RZ
end PL

/-! for x, y in zip(a, b) -/
namespace PL
open PySem PySem.Spec L2
section
variable {G : PenK} {K : PySem.W.Frag} {S : Addr → Prop} {H : Hp} {a b : Addr} {xs ys : List D} {vs ws : List V}
end
section
variable {G : PenK} {X : Cx} {Wx : WX}
end
end PL

/-! x += e of ints; sum, max, min of ints. -/
namespace PL
open PySem PySem.Spec L2
section
variable {G : PenK} {X : Cx} {Wx : WX} {γ : Type} {En : Enz γ} {ρ : Env} {rest : List Stmt} {m : W γ}
end
/-! ### sums -/
def intsL : List D → Option (List Int)
  | [] => some []
  | .int i :: r => (intsL r).map fun l => i :: l
  | _ => none
theorem reps_ints {K : PySem.W.Frag} {S : Addr → Prop} {H : Hp} : ∀ {xs : List D} {vs : List V} {l : List Int}, Reps K S H xs vs → intsL xs = some l → vs = l.map V.int
  | [], _, _, h, e => by
    have e0 : _ = [] := h
    rw [e0]
    cases e
    rfl
  | .int i :: xs, _, l, h, e => by
    obtain ⟨v, ws, rfl, r, q⟩ := h
    have e : (intsL xs).map (fun l => i :: l) = some l := e
    cases es : intsL xs with
    | none => rw [es] at e; cases e
    | some l2 =>
      rw [es] at e
      cases e
      cases r
      rw [reps_ints q es]
      rfl
  | .non :: _, _, _, _, e => by cases e
  | .bl _ :: _, _, _, _, e => by cases e
  | .str _ :: _, _, _, _, e => by cases e
  | .lst _ :: _, _, _, _, e => by cases e
  | .tup _ :: _, _, _, _, e => by cases e
  | .dic _ :: _, _, _, _, e => by cases e
  | .ins _ _ _ :: _, _, _, _, e => by cases e
section
variable {G : PenK} {X : Cx} {Wx : WX}
end
end PL

/-! a law's def over any source of draws. -/
namespace PL
open PySem PySem.Spec PyProof.Rows L2
/-- the source is made of the script -/
def spFeedK (G : PenK) (K : PySem.W.Frag) : Sp := fun vs H Q _ => ∃ (a : Addr) (ns : List Int), vs = [.ref a] ∧ SqL K H a (ns.map V.int) ∧ ns.length ≤ 63 ∧ ∀ H' p b, G.inv H' p b 0 → (∀ P ps, H P = some (.tbl ps) → H' P = some (.tbl ps)) → Q (.ref p) H'
/-- what the law's def promises, its tables of code objects empty at first -/
def spLawT (K : PySem.W.Frag) (T : List (Addr × Str)) : Sp := fun vs H Q _ => ∃ (a : Addr) (ns : List Int), vs = [.ref a] ∧ SqL K H a (ns.map V.int) ∧ ns.length ≤ 63 ∧ (∀ q ∈ T, H q.1 = some (.tbl #[])) ∧ ∀ H', Q (.bl true) H'
theorem law_defKC (G : PenK) {P : Program} {w : World} {K : PySem.W.Frag} {mg : Str → Option Value} {base : Heap} {k : Nat} {f ff : Addr} {fd fdf : FuncData} {st : Stmt} {N NR : List Str} {fn x0 x1 : Str} {px p p2 p3 px' : Pos} {rest : List Stmt} {b : W D} (F : Fun K "law" "law" st f fd) (S : FnScope N [x0] (defScope st))
    (hst : defBody st = .Assign [.Name x1 px] (.Call (.Name fn p) [.Name x0 p2] [] p3) px' :: rest) (hN : N = x0 :: x1 :: NR) (hf : (defScope st).names.lookup fn = some .globalImplicit) (hx0 : (defScope st).names.lookup x0 = some .local) (hx1 : Loc (defScope st) x1)
    (hd0 : (x0 == ("__debug__" : Str)) = false) (hc0 : (x0 == ("__classdict__" : Str)) = false) (hdf : (fn == ("__debug__" : Str)) = false)
    (GF : FnG P w K mg base k ff fdf [x0] (spFeedK G K)) (gF : mg fn = some (.ref ff)) (kF : PySem.W.keepIn K (.ref ff) = true) (bF : Binds K fdf [x0] [])
    (body : ∀ (cdv : Value) (A : Around) (outer : List PySem.Env) (s : Shared) (H : Hp) (E : XK) (Wx : WX), fd.code = cdv → A.guards = some [] → Room k (A.deeper (envOfC "law" (defScope st) s.heap.objs.size f cdv)) → Takes (cxOf (L2.CX P w) P w K mg base N "law" (defScope st) f cdv A outer s H E) Wx →
      PassesOwn (model P w) (A.deeper (envOfC "law" (defScope st) s.heap.objs.size f cdv)) (envOfC "law" (defScope st) s.heap.objs.size f cdv) (cxOf (L2.CX P w) P w K mg base N "law" (defScope st) f cdv A outer s H E).xe → SG G (cxOf (L2.CX P w) P w K mg base N "law" (defScope st) f cdv A outer s H E) Wx rest (.un :: .pen :: List.replicate NR.length .un) EnT b)
    (holds : b n0 (fun d _ => d = .bl true) (fun _ _ => False)) : FnG P w K mg base (k + 1) f fd [x0] (spLawT K G.tab) := by
  subst hN
  refine FnG.of_bodyC F S (fun vs H Q E ⟨a, ns, e, _⟩ => by rw [e]; rfl) fun cdv A outer s H vs Q E hcc hg hr ⟨a, ns, e, hS, hl, htb, q⟩ => ?_
  subst e
  have hb := body cdv A outer s H E (fun cls d _ H => E cls d H) hcc hg hr (L2.takes_of rfl rfl rfl rfl) (passes_of rfl)
  rw [hst]
  refine ⟨_, pss_cons (ps_set (i := 1) S.nd rfl hx1 (pe_callG (Wx := fun cls d _ H => E cls d H) GF hg hr (L2.takes_of rfl rfl rfl rfl) hf gF kF bF (pa_cons (pe_var (i := 0) rfl (.inl hx0) hd0 hc0) pa_nil) hdf)) hb, ?_⟩
  refine ⟨.ref a, rfl, a, ns, rfl, hS, hl, fun H' p b gp ktb => ?_⟩
  have hlen : (L2.start (x0 :: x1 :: NR) [V.ref a]).set 1 (some (.ref p)) = some (.ref a) :: some (.ref p) :: List.replicate NR.length none := by
    unfold L2.start
    show (some (V.ref a) :: (List.replicate ((NR.length + 1 + 1) - 1) none)).set 1 _ = _
    rw [Nat.add_sub_cancel, List.replicate_succ]
    rfl
  have tb : ∀ q ∈ G.tab, H' q.1 ≠ none ∧ TabI (fun _ => False) H' q.1 q.2 := fun q hq => by
    have e := ktb _ _ (htb q hq)
    refine ⟨(by rw [e]; exact fun z => (nomatch z)), #[], e, True.intro, fun pos cv z => ?_⟩
    have z : codeAmong pos [] = some cv := z
    simp [codeAmong] at z
  show tG G _ _ _ _ _ _ ((L2.start (x0 :: x1 :: NR) [V.ref a]).set 1 (some (.ref p))) H'
  rw [hlen]
  refine ⟨⟨fun _ => False, H', some (p, b), fun a => H' a ≠ none, fun _ => False⟩, n0, _, _, ⟨by simp, fun i sv e => ?_, fun i sv x e ho => ?_, fun i j sv sv' x _ e _ ho => ?_, fun _ h => h.elim, fun _ _ e _ => e, fun z e => ?_, fun _ h => ⟨fun z => z, h⟩, (fun q hq => tb q hq), (fun _ _ e => nomatch e), fun _ h => h.elim, fun _ _ => rfl⟩, holds, ⟨?_, ?_, fun _ _ _ _ _ _ z => z.elim, fun _ _ _ _ _ _ z => z.elim⟩, fun _ _ _ _ _ _ _ _ z => z.elim⟩
  · match i, e with
    | 0, e => cases e; trivial
    | 1, e => cases e; exact ⟨(p, b), rfl, rfl⟩
    | i + 2, e =>
      have e : (List.replicate NR.length SV.un)[i]? = some sv := e
      rw [List.getElem?_replicate] at e
      split at e
      · cases e; trivial
      · cases e
  · exfalso
    match i, e with
    | 0, e => cases e; cases ho
    | 1, e => cases e; cases ho
    | i + 2, e =>
      have e : (List.replicate NR.length SV.un)[i]? = some sv := e
      rw [List.getElem?_replicate] at e
      split at e
      · cases e; cases ho
      · cases e
  · exfalso
    match i, e with
    | 0, e => cases e; cases ho
    | 1, e => cases e; cases ho
    | i + 2, e =>
      have e : (List.replicate NR.length SV.un)[i]? = some sv := e
      rw [List.getElem?_replicate] at e
      split at e
      · cases e; cases ho
      · cases e
  · cases e
    exact ⟨gp, fun z => z, fun z => z, (G.there gp).1, (G.there gp).2⟩
  · rintro ρ' _ k σ' S' H2 rfl p g I
    exact nomatch (show D.non = D.bl true from p)
  · rintro d _ k v σ' ρ' S' H2 rfl p g I r
    have p : d = D.bl true := p
    subst p
    cases r
    exact q H2
/-- .. of a law without tables -/
theorem law_defK (G : PenK) {P : Program} {w : World} {K : PySem.W.Frag} {mg : Str → Option Value} {base : Heap} {k : Nat} {f ff : Addr} {fd fdf : FuncData} {st : Stmt} {N NR : List Str} {fn x0 x1 : Str} {px p p2 p3 px' : Pos} {rest : List Stmt} {b : W D} (F : Fun K "law" "law" st f fd) (S : FnScope N [x0] (defScope st))
    (hst : defBody st = .Assign [.Name x1 px] (.Call (.Name fn p) [.Name x0 p2] [] p3) px' :: rest) (hN : N = x0 :: x1 :: NR) (hf : (defScope st).names.lookup fn = some .globalImplicit) (hx0 : (defScope st).names.lookup x0 = some .local) (hx1 : Loc (defScope st) x1)
    (hd0 : (x0 == ("__debug__" : Str)) = false) (hc0 : (x0 == ("__classdict__" : Str)) = false) (hdf : (fn == ("__debug__" : Str)) = false)
    (GF : FnG P w K mg base k ff fdf [x0] (spFeedK G K)) (gF : mg fn = some (.ref ff)) (kF : PySem.W.keepIn K (.ref ff) = true) (bF : Binds K fdf [x0] [])
    (body : ∀ (cdv : Value) (A : Around) (outer : List PySem.Env) (s : Shared) (H : Hp) (E : XK) (Wx : WX), A.guards = some [] → Room k (A.deeper (envOfC "law" (defScope st) s.heap.objs.size f cdv)) → Takes (cxOf (L2.CX P w) P w K mg base N "law" (defScope st) f cdv A outer s H E) Wx →
      PassesOwn (model P w) (A.deeper (envOfC "law" (defScope st) s.heap.objs.size f cdv)) (envOfC "law" (defScope st) s.heap.objs.size f cdv) (cxOf (L2.CX P w) P w K mg base N "law" (defScope st) f cdv A outer s H E).xe → SG G (cxOf (L2.CX P w) P w K mg base N "law" (defScope st) f cdv A outer s H E) Wx rest (.un :: .pen :: List.replicate NR.length .un) EnT b)
    (holds : b n0 (fun d _ => d = .bl true) (fun _ _ => False)) (hG : G.tab = [] := by rfl) : FnG P w K mg base (k + 1) f fd [x0] (spLaw K) :=
  (law_defKC G F S hst hN hf hx0 hx1 hd0 hc0 hdf GF gF kF bF (fun cdv A outer s H E Wx _ => body cdv A outer s H E Wx) holds).imp fun vs H Q E ⟨a, ns, e, hS, hl, q⟩ => ⟨a, ns, e, hS, hl, fun q hq => (by rw [hG] at hq; cases hq), q⟩
end PL

/-! d.pop(k), d.pop(k, x) as statements; k in d. -/
namespace PL
open PySem PySem.Spec L2
def dropD (kvs : List (Key × D)) (k : Key) : List (Key × D) := kvs.filter fun kv => decide (kv.1 ≠ k)
theorem RepK.drop {K : PySem.W.Frag} {S : Addr → Prop} {H : Hp} : ∀ {kvs : List (Key × D)} {kws : List (Key × V)} (k : Key), RepK K S H kvs kws → RepK K S H (dropD kvs k) (dropK kws k)
  | [], _, k, h => by
    have e : _ = [] := h
    rw [e]
    rfl
  | (j, x) :: xs, _, k, h => by
    obtain ⟨v, ws, rfl, r, q⟩ := h
    have ih := RepK.drop k q
    unfold dropD dropK at ih ⊢
    rw [List.filter_cons, List.filter_cons]
    by_cases e : j = k
    · simp only [e, ne_eq, not_true_eq_false, decide_false, Bool.false_eq_true, if_false]
      simpa using ih
    · simp only [ne_eq, e, not_false_eq_true, decide_true, if_true]
      exact ⟨v, _, rfl, r, by simpa using ih⟩
section
variable {G : PenK} {X : Cx} {Wx : WX} {γ : Type} {En : Enz γ} {ρ : Env} {rest : List Stmt} {m : W γ}
end
section
variable {G : PenK} {X : Cx} {Wx : WX}
end
end PL

set_option maxHeartbeats 2000000
/-! list(d.items()): each pair told by its object. -/
namespace PL
open PySem PySem.Spec PyProof.Rows L2 LiI
def oat (h : Heap) (a : Addr) : Obj := (h.get? a).getD { cls := .type "tuple", data := .seq #[] }
def putZ (hh : Heap) : Hp → List Addr → List (Key × V) → Hp
  | H, a :: as, p :: kvs => putZ hh (upd H a (.frz (oat hh a) (.tup [kV p.1, p.2]))) as kvs
  | H, _, _ => H
theorem putZ_off {hh : Heap} {b : Addr} : ∀ (as : List Addr) (kvs : List (Key × V)) (H : Hp), b ∉ as → putZ hh H as kvs b = H b
  | [], _, _, _ => rfl
  | _ :: _, [], _, _ => rfl
  | a :: as, p :: kvs, H, h => by
    show putZ hh (upd H a (.frz (oat hh a) (.tup [kV p.1, p.2]))) as kvs b = H b
    rw [putZ_off as kvs _ (fun z => h (List.mem_cons_of_mem _ z)), upd_ne (fun z => h (by rw [z]; exact List.mem_cons_self))]
theorem putZ_at {hh : Heap} : ∀ (as : List Addr) (kvs : List (Key × V)) (H : Hp), as.length = kvs.length → as.Nodup → Paired (fun (t : Addr) (p : Key × V) => putZ hh H as kvs t = some (.frz (oat hh t) (.tup [kV p.1, p.2]))) as kvs
  | [], [], _, _, _ => .nil
  | [], _ :: _, _, h, _ => by cases h
  | _ :: _, [], _, h, _ => by cases h
  | a :: as, p :: kvs, H, h, hn => by
    have hn' := List.nodup_cons.mp hn
    have ih := putZ_at (hh := hh) as kvs (upd H a (.frz (oat hh a) (.tup [kV p.1, p.2]))) (Nat.succ.inj h) hn'.2
    refine .cons ?_ ih
    show putZ hh (upd H a (.frz (oat hh a) (.tup [kV p.1, p.2]))) as kvs a = some (.frz (oat hh a) (.tup [kV p.1, p.2]))
    rw [putZ_off as kvs _ hn'.1, upd_same]
section
variable {X : Cx} {e : Expr} {te : TE} {p apos cpos pos : Pos}
end
end PL

/-! list(d.items()), by values. -/
namespace PL
open PySem PySem.Spec L2
section
variable {G : PenK} {K : PySem.W.Frag} {c : C} {σ : L2.St} {ρ : Env} {H H' : Hp} {n : Nt}
/-- several new things are laid at once -/
theorem SI.ext (I : SI G K c σ H ρ n) (k : ∀ b o, H b = some o → H' b = some o) (T : Addr → Prop) (hT : ∀ t, T t → H t = none ∧ H' t ≠ none) : SI G K (c.to fun a => c.S a ∨ T a) σ H' ρ n ∧ Grow c.S (fun a => c.S a ∨ T a) H H' := by
  have eq : ∀ a, H a ≠ none → H' a = H a := fun a h => by
    cases e : H a with
    | none => exact absurd e h
    | some o => exact k a o e
  have g : Grow c.S (fun a => c.S a ∨ T a) H H' := ⟨fun _ h => .inl h, fun a h => eq a (I.dom a h)⟩
  refine ⟨⟨I.len, fun i sv e => (I.slots i sv e).grow g fun a ea ho => eq a (I.own_there ⟨i, sv, e, ho, ea⟩), fun i sv a e ho es => ⟨fun z => z.elim (I.own i sv a e ho es).1 fun z => I.own_there ⟨i, sv, e, ho, es⟩ (hT a z).1, (I.own i sv a e ho es).2⟩, I.apart, fun a h => ?_, fun a o e hn => k a o (I.fr a o e hn), fun p e => ?_, fun a h => ⟨fun z => z.elim (I.no a h).1 fun z => (I.no a h).2 (I.freeOld (hT a z).1), (I.no a h).2⟩, fun q e => ⟨(I.tab q e).1, (I.tab q e).2.grow g (eq _ (I.tabN e).2.2)⟩, fun a nd e => ⟨(I.mu a nd e).1.grow g (eq _ (I.mu a nd e).1.there), fun z => Or.elim z (I.mu a nd e).2.1 fun z => (I.mu a nd e).1.there (hT a z).1, (I.mu a nd e).2.2⟩, I.mu0, I.mz⟩, g⟩
  · rcases h with h | h
    · rw [eq a (I.dom a h)]; exact I.dom a h
    · exact (hT a h).2
  · obtain ⟨h1, h2, h3, h4, h5⟩ := I.pen p e
    obtain ⟨k1, k2⟩ := G.there h1
    exact ⟨G.dep h1 (eq _ k1) (eq _ k2), fun z => z.elim h2 fun z => k1 (hT _ z).1, fun z => z.elim h3 fun z => k2 (hT _ z).1, h4, h5⟩
end
def itemsL (kvs : List (Key × D)) : List D := kvs.map fun kv => .tup [keyV kv.1, kv.2]
def itemsW (kvs : List (Key × D)) : W (List D) := grd (kvs.length ≤ sizeLine ∧ ∀ kv ∈ kvs, ∀ s, kv.1 = .inr s → s.length ≤ sizeLine) (ret (itemsL kvs))
section
variable {G : PenK} {X : Cx} {Wx : WX}
end
end PL

namespace PL
open PySem PySem.Spec L2
/-- range of a written number, closed against unrolling -/
@[irreducible] def rngK (i : Int) : W (List Int) := rngI i
theorem rngK_eq (i : Int) : rngK i = rngI i := by unfold rngK; rfl
theorem w_rngK {G : PenK} {X : Cx} {Wx : WX} {tg e : Expr} {i : Int} (h : Wk G X Wx tg e (fun _ => bnd (bnd (ret (.int i)) rngD) fun ys => ret (ys.map .int))) : Wk G X Wx tg e (fun _ => bnd (rngK i) fun ys => ret (ys.map .int)) := by
  unfold rngK; exact h
end PL

/-! sorted of any list of pairs (text, int). -/
namespace PL
open PySem PySem.Spec PyProof.Rows L2
open SrtO hiding Str
section
variable {prog : Program} {w : World} {A : Around} {E : Value → Shared → Prop} {s : Shared}
end
section
variable {X : Cx}
end
def siD (p : Str × Int) : D := .tup [.str p.1, .int p.2]
def lexLe (p q : Str × Int) : Bool := !lexS q p
def sortSI (l : List (Str × Int)) : List (Str × Int) := l.mergeSort lexLe
/-- sorted of pairs -/
def sortGW : D → W (List D)
  | .lst xs => bnd (optW (siL xs)) fun l => ret ((sortSI l).map siD)
  | _ => stuck
theorem siL_map : ∀ {xs : List D} {l : List (Str × Int)}, siL xs = some l → xs = l.map siD
  | [], l, e => by cases e; rfl
  | x :: xs, l, e => by
    match x, e with
    | .tup [.str y, .int i], e =>
      have e : (siL xs).map (fun l => (y, i) :: l) = some l := e
      cases es : siL xs with
      | none => rw [es] at e; cases e
      | some l2 =>
        rw [es] at e
        cases e
        rw [siL_map es]
        rfl
theorem siL_siD (l : List (Str × Int)) : siL (l.map siD) = some l := by
  induction l with
  | nil => rfl
  | cons p l ih =>
    show (siL (l.map siD)).map _ = _
    rw [ih]
    rfl
theorem lexLe_iff {p q : Str × Int} : lexLe p q = true ↔ ¬ (q.1.cps.toList < p.1.cps.toList ∨ (q.1 = p.1 ∧ q.2 < p.2)) := by
  unfold lexLe
  rw [Bool.not_eq_true', lexS_no]
theorem lexLe_trans (a b c : Str × Int) (h1 : lexLe a b = true) (h2 : lexLe b c = true) : lexLe a c = true := by
  have z := (swo_lexS (fun v => match v with | .bool true => a | .bool false => b | _ => c)).tr (.bool true) (.bool false) .none
  have y1 : lexS b a = false := by simpa [lexLe] using h1
  have y2 : lexS c b = false := by simpa [lexLe] using h2
  have y := z y1 y2
  show (!lexS c a) = true
  rw [show lexS c a = false from y]
  rfl
theorem lexLe_total (a b : Str × Int) : (lexLe a b || lexLe b a) = true := by
  rw [Bool.or_eq_true]
  refine Classical.byContradiction fun q => ?_
  rw [not_or, lexLe_iff, lexLe_iff, Classical.not_not, Classical.not_not] at q
  obtain ⟨h1, h2⟩ := q
  rcases h1 with h1 | ⟨h1, h3⟩ <;> rcases h2 with h2 | ⟨h2, h4⟩
  · exact List.lt_asymm h1 h2
  · rw [h2] at h1; exact List.lt_irrefl _ h1
  · rw [h1] at h2; exact List.lt_irrefl _ h2
  · omega
theorem lexLe_anti (a b : Str × Int) (h1 : lexLe a b = true) (h2 : lexLe b a = true) : a = b := by
  rw [lexLe_iff, not_or] at h1 h2
  have e : a.1 = b.1 := cps_inj (List.le_antisymm (List.not_lt.mp h1.1) (List.not_lt.mp h2.1))
  have x1 : ¬ b.2 < a.2 := fun z => h1.2 ⟨e.symm, z⟩
  have x2 : ¬ a.2 < b.2 := fun z => h2.2 ⟨e, z⟩
  exact Prod.ext e (by omega)
theorem sortSI_pw (l : List (Str × Int)) : (sortSI l).Pairwise fun a b => lexLe a b = true := List.pairwise_mergeSort lexLe_trans lexLe_total l
theorem sortSI_perm (l : List (Str × Int)) : (sortSI l).Perm l := List.mergeSort_perm l lexLe
theorem sortSI_uniq {l m : List (Str × Int)} (hp : m.Perm l) (hs : m.Pairwise fun a b => lexLe a b = true) : sortSI l = m :=
  ((sortSI_perm l).trans hp.symm).eq_of_pairwise (fun a b _ _ h1 h2 => lexLe_anti a b h1 h2) (sortSI_pw l) hs
theorem reps_zs {K : PySem.W.Frag} {S : Addr → Prop} {H : Hp} : ∀ {zs : List (Addr × (Str × Int))}, (∀ z ∈ zs, Rep K S H (siD z.2) (.ref z.1)) → Reps K S H ((zs.map (·.2)).map siD) (zs.map fun z => V.ref z.1)
  | [], _ => Reps.nil
  | z :: zs, h => Reps.cons (h z List.mem_cons_self) (reps_zs fun y hy => h y (List.mem_cons_of_mem _ hy))
section
variable {G : PenK} {X : Cx} {Wx : WX}
end
end PL

/-! What is never reached (raise); expressions as statements; {**d, k: v}; d.get(k, x); items of a list of one's own; while. -/
namespace PL
open PySem PySem.Spec PyProof.Rows L2
section
variable {G : PenK} {X : Cx} {Wx : WX} {γ : Type} {En : Enz γ} {ρ : Env} {rest : List Stmt} {m : W γ}
theorem sg_stuck {ss : List Stmt} : SG G X Wx ss ρ En stuck := weakSs pss_no fun Dn σ H ⟨c, n, P, PX, I, q, _⟩ => q
theorem sg_expr {e : Expr} {pos : Pos} {g : Env → W D} {m0 : W D} (h : E G X Wx e g) (hg : g (bor ρ) = m0) (hr : SG G X Wx rest ρ En m) (hs : swapsWith e none pos.line X.env = pure false := by rfl) : SG G X Wx (.Expr e pos :: rest) ρ En (bnd m0 fun _ => m) :=
  weakSs (pss_cons (ps_expr h hs) hr) fun Dn σ H ⟨c, n, P, PX, I, q, hgl, hx⟩ => by
    obtain ⟨I2, g2⟩ := I.lend
    subst hg
    refine tE.bnd (f := fun _ => m) I2 q (hx.grow g2).x fun d k' v S' H' p g I' hx' r => ?_
    obtain ⟨I3, g3⟩ := I.back g I'
    exact ⟨_, k', P, PX, I3, p, hgl.grow g3, hx.grow g3⟩
/-! ### while -/
end
/-! ### {**d, k: v} -/
section
variable {X : Cx}
end
section
variable {G : PenK} {X : Cx} {Wx : WX}
theorem OKx.blk {c : C} {σ : L2.St} {ρ : Env} {H : Hp} {n : Nt} {D : Addr} {o : HO} {PX : Exc → Nt → Prop} (I : SI G X.K c σ H ρ n) (h0 : c.H0 D = none) (hx : OKx G X Wx c σ ρ H PX) : OKx G X Wx (c.blk D o) σ ρ H PX :=
  fun x k S' H' cls dd px g J r => hx x k S' H' cls dd px g (SI.restore (vs := []) I h0 J g (fun _ _ => rfl) (fun _ _ => rfl) rfl).1 r
/-! ### d.get(k, x) -/
/-! ### items of a list of one's own -/
/-! ### a tuple of texts among the globals -/
end
end PL

/-! errors: a class over any built-in class, whose own __init__ keeps its one argument in a field. -/
namespace PL
open PySem PySem.Spec PyProof.Rows L2 PySem.Calls Builtin.ObjectAttr
/-- what the written part says of such a class -/
structure OexB (K : PySem.W.Frag) (C : Addr) (bmB : List Value) (newId : String) : Prop where
  ini : PySem.W.excInitIn K C bmB newId = true
  ovr : PySem.W.excOver K C bmB = true
  hd : PySem.W.hasDictIn K C = true
  sa : PySem.W.findIn K (.ref C) "__setattr__" = some (some (.builtin "object.__setattr__"))
  exC : PySem.W.subIn K (.ref C) (.type "BaseException") = some true
  tyC : PySem.W.typeIn K (.ref C) = some (.type "type")
  kC : PySem.W.keepIn K (.ref C) = true
section
variable {prog : Program} {w : World} {A : Around} {R : Result → Shared → Prop} {hp : Heap} {g : Array GenState} {d : Drawn} {t : Nat} {os : OsState} {B : String} {bmB : List Value}
end
section
variable {X : Cx} {pins : List (Addr × Obj)} {σ : L2.St} {H : Hp} {s : Shared} {a C : Addr} {f : Str} {y : V} {u : Value} {Q : Unit → Shared → Prop} {E : Value → Shared → Prop} {A : Around} {B newId : String} {bmB : List Value}
end
section
variable {X : Cx} {o e : Expr} {to te : TE} {f : Str} {p p' pos : Pos} {B newId initId : String} {bmB : List Value}
/-- what is known of a class with such an __init__ -/
structure IniK (K : PySem.W.Frag) (C fI : Addr) (fd : FuncData) (bmB : List Value) (newId : String) (q : Str) (st : Stmt) (sn vn f : Str) : Prop where
  T : OexB K C bmB newId
  iC : PySem.W.findIn K (.ref C) "__init__" = some (some (.ref fI))
  tI : PySem.W.typeIn K (.ref fI) = some (.type "function")
  F : Fun K "__init__" q st fI fd
  S : FnScope [sn, vn] [sn, vn] (defScope st)
  sb : ∃ p1 p2 p3 p4, defBody st = [.Assign [.Attribute (.Name sn p1) f p2] (.Name vn p3) p4]
  hn : (sn == ("__debug__" : Str)) = false ∧ (sn == ("__classdict__" : Str)) = false ∧ (vn == ("__debug__" : Str)) = false ∧ (vn == ("__classdict__" : Str)) = false
  vs : (defScope st).names.lookup sn = some .local ∧ (defScope st).names.lookup vn = some .local
  no : PySem.W.findIn K (.ref C) f = some none
  bd : Binds K fd [sn, vn] []
end
end PL

/-! try: .. except (X, Y, ..) as e: name = e. The error is kept in the name. -/
namespace PL
open PySem PySem.Spec PyProof.Rows L2
/-! ### the classes of a clause -/
/-! ### the names of a clause -/
abbrev Nm := Str × Pos × Value
section
variable {X : Cx} {n cn : Str} {xs : List Nm} {i i2 : Nat} {body : List Stmt} {kx : Nat} {tp p1 p2 p3 pos pos' : Pos} {tb : WX → TS}
end
end PL

/-! The layer: raise, try that keeps its error, isinstance of an error that was kept, its field. -/
namespace PL
open PySem PySem.Spec PyProof.Rows L2
/-! ### classes of errors -/
/-- the names of the errors with the names of their classes -/
abbrev ETab := List (Str × List Str)
def isS (t : ETab) (y c : Str) : Bool := ((t.lookup y).getD []).contains c
def kn (t : ETab) (y : Str) : Bool := (t.lookup y).isSome
structure ErrI (K : PySem.W.Frag) (mg : Str → Option Value) (t : ETab) (cs : List (Str × Value)) : Prop where
  ex : ∀ y A, mg y = some (.ref A) → kn t y = true → ExcC K A
  is : ∀ y A, mg y = some (.ref A) → kn t y = true → ∀ p ∈ cs, PySem.W.kitOne K (.ref A) p.2 = some (isS t y p.1) ∧ PySem.W.exmOne K (.ref A) p.2 = some (isS t y p.1)
/-! ### names take anything that is not one's own -/
section
variable {G : PenK} {K : PySem.W.Frag} {c : C} {σ : L2.St} {ρ : Env} {H : Hp} {n : Nt}
end

section
variable {G : PenK} {X : Cx} {Wx : WX} {γ : Type} {En : Enz γ} {ρ : Env} {rest : List Stmt} {m : W γ}
/-! ### raise -/
/-! ### try -/
end
end PL

/-! The layer: isinstance of an error that was kept, its field. -/
namespace PL
open PySem PySem.Spec PyProof.Rows L2
/-! ### isinstance -/
def XAt (H : Hp) (a D : Addr) : Prop := ∃ dd : Option Addr, H a = some (ErrO (.ref D) dd a) ∧ (dd = none ∨ ∃ d fv, dd = some d ∧ H d = some (.xd fv))
section
variable {G : PenK} {X : Cx} {Wx : WX} {γ : Type} {En : Enz γ} {ρ : Env} {rest : List Stmt} {m : W γ}
theorem SI.exc {K : PySem.W.Frag} {c : C} {σ : L2.St} {H : Hp} {n : Nt} {i : Nat} {x : Exc} (I : SI G K c σ H ρ n) (e : ρ[i]? = some (.exc x)) : ∃ a D dd, slot σ i = some (.ref a) ∧ XAt H a D ∧ G.mg x.1 = some (.ref D) ∧ H a = some (ErrO (.ref D) dd a) ∧ RepX K G.mg c.S H x (.ref D) dd := by
  obtain ⟨a, cls, dd, e1, hs, ha, r⟩ := I.slots i _ e
  obtain ⟨D, h1, h2, h3⟩ := id r
  subst h2
  exact ⟨a, D, dd, e1, ⟨dd, ha, h3.elim (fun z => .inl z.2) fun ⟨d, fv, e, _, hd, _⟩ => .inr ⟨d, fv, e, hd⟩⟩, h1, ha, r⟩
end
end PL

/-! The layer: a lambda handed to a def. -/
namespace PL
open PySem PySem.Spec PyProof.Rows L2 LamX
section
variable {G : PenK} {K : PySem.W.Frag} {c : C} {σ : L2.St} {ρ : Env} {H : Hp} {n : Nt}
/-- a code object is made, its table is longer -/
theorem SI.code {P c' : Addr} {q : Str} {ps : Array Value} {pos : Pos} (J : SI G K c σ H ρ n) (hq : (P, q) ∈ G.tab) (hu : ∀ p ∈ G.tab, p.1 = P → p.2 = q) (hP : H P = some (.tbl ps)) (hT : TriplesOk ps.toList) (ho : ∀ (pos : Pos) (cv : Value), codeAmong pos ps.toList = some cv → ∃ c0, cv = .ref c0 ∧ c.S c0 ∧ H c0 = some (CodeO c0 q)) (nC : H c' = none) :
    SI G K (c.to fun a => c.S a ∨ a = c') σ (upd (upd H P (.tbl (ps ++ #[rawInt pos.line, rawInt pos.col, .ref c']))) c' (CodeO c' q)) ρ n ∧ Grow c.S (fun a => c.S a ∨ a = c') H (upd (upd H P (.tbl (ps ++ #[rawInt pos.line, rawInt pos.col, .ref c']))) c' (CodeO c' q)) := by
  have nPc : P ≠ c' := ne_of_none hP nC
  have at_ : ∀ b, b ≠ P → b ≠ c' → upd (upd H P (.tbl (ps ++ #[rawInt pos.line, rawInt pos.col, .ref c']))) c' (CodeO c' q) b = H b := fun b h1 h2 => by rw [upd_ne h2, upd_ne h1]
  have atP : upd (upd H P (.tbl (ps ++ #[rawInt pos.line, rawInt pos.col, .ref c']))) c' (CodeO c' q) P = some (.tbl (ps ++ #[rawInt pos.line, rawInt pos.col, .ref c'])) := by rw [upd_ne nPc, upd_same]
  have tN := J.tabN hq
  have ne : ∀ b, H b ≠ none → b ≠ c' := fun b h z => h (z ▸ nC)
  have eqS : ∀ b, c.S b → upd (upd H P (.tbl (ps ++ #[rawInt pos.line, rawInt pos.col, .ref c']))) c' (CodeO c' q) b = H b := fun b h => at_ b (fun z => tN.1 (z ▸ h)) (ne b (J.dom b h))
  have g : Grow c.S (fun a => c.S a ∨ a = c') H (upd (upd H P (.tbl (ps ++ #[rawInt pos.line, rawInt pos.col, .ref c']))) c' (CodeO c' q)) := ⟨fun _ h => .inl h, eqS⟩
  have ownN : ∀ a, ownS ρ σ a → a ≠ P := fun a ⟨i, sv, e, h, es⟩ z => tN.2.1 (z ▸ (J.own i sv a e h es).2.1)
  have eL : (ps ++ #[rawInt pos.line, rawInt pos.col, .ref c']).toList = ps.toList ++ [rawInt pos.line, rawInt pos.col, .ref c'] := by simp
  refine ⟨⟨J.len, fun i sv e => (J.slots i sv e).grow g fun a ea h => at_ a (ownN a ⟨i, sv, e, h, ea⟩) (ne a (J.own_there ⟨i, sv, e, h, ea⟩)), fun i sv a e h es => ⟨fun z => z.elim (J.own i sv a e h es).1 fun z => ne a (J.own_there ⟨i, sv, e, h, es⟩) z, (J.own i sv a e h es).2⟩, J.apart, fun a h => ?_, fun a o e hn => ?_, fun p e => ?_,
    fun a h => ⟨fun z => z.elim (J.no a h).1 fun z => (J.no a h).2 (z ▸ J.freeOld nC), (J.no a h).2⟩, fun p hp => ⟨(J.tab p hp).1, ?_⟩, fun b nd e => ⟨(J.mu b nd e).1.grow g (at_ b (fun z => (J.mu b nd e).2.2.2 (.inr ⟨_, hq, z⟩)) (ne b (J.mu b nd e).1.there)), fun z => Or.elim z (J.mu b nd e).2.1 (ne b (J.mu b nd e).1.there), (J.mu b nd e).2.2⟩, J.mu0, J.mz⟩, g⟩
  · rcases h with h | h
    · rw [eqS a h]; exact J.dom a h
    · rw [h, upd_same]; exact fun z => nomatch z
  · have q1 := J.fr a o e hn
    rw [at_ a (fun z => hn (.inl (.inr ⟨_, hq, z⟩))) (ne a (by rw [q1]; exact fun z => nomatch z))]
    exact q1
  · obtain ⟨h1, h2, h3, h4, h5⟩ := J.pen p e
    obtain ⟨⟨xs, e1⟩, ys, e2⟩ := G.isL h1
    have nl : ∀ b xs, H b = some (.lst xs) → b ≠ P := fun b xs h z => by rw [z, hP] at h; cases h
    exact ⟨G.dep h1 (at_ _ (nl _ _ e1) (ne_of_none e1 nC)) (at_ _ (nl _ _ e2) (ne_of_none e2 nC)), fun z => z.elim h2 (ne_of_none e1 nC), fun z => z.elim h3 (ne_of_none e2 nC), h4, h5⟩
  · rcases Classical.em (p.1 = P) with hb | hb
    · rw [hu p hp hb, hb]
      refine ⟨_, atP, by rw [eL]; exact PySem.TriplesOk_snoc _ _ _ _ hT, fun p' cv hcv => ?_⟩
      rw [eL] at hcv
      rcases among_app _ hT hcv with z | z
      · obtain ⟨c0, e1, e2, e3⟩ := ho p' cv z
        exact ⟨c0, e1, .inl e2, (eqS c0 e2).trans e3⟩
      · exact ⟨c', z, .inr rfl, upd_same⟩
    · exact (J.tab p hp).2.grow g (at_ _ hb (ne _ (J.tabN hp).2.2))
end
section
variable {G : PenK} {X : Cx} {pins : List (Addr × Obj)} {σ : L2.St} {H : Hp} {s : Shared} {c : C} {ρ : Env} {n : Nt}
end
end PL

/-! The layer: a lambda handed to a def, called there; the call of such a def. -/
namespace PL
open PySem PySem.Spec PyProof.Rows L2 LamX
def emb1 : Option D → SV
  | some x => .d x
  | none => .un
abbrev embs (ds : List (Option D)) : Env := ds.map emb1
section
variable {G : PenK} {X : Cx} {pins : List (Addr × Obj)} {σ : L2.St} {H : Hp} {s : Shared}
/-- the state of the lambda's names where it is called -/
theorem SI.lam {K : PySem.W.Frag} {c : C} {τ : L2.St} {ρ : Env} {n : Nt} {b : Addr} {q : Str} {ds : List (Option D)} (J : SI G K c τ H ρ n) (h : LamOk K c.S H b q σ ds) : SI G K ⟨c.S, H, c.pen, fun a => H a ≠ none ∧ ¬ c.S a, fun a => n.μ a ≠ none⟩ σ H (embs ds) n := by
  obtain ⟨_, _, hl, hd⟩ := h
  have key : ∀ (i : Nat) (sv : SV), (embs ds)[i]? = some sv → sv = .un ∨ ∃ x, sv = .d x ∧ ds[i]? = some (some x) := fun i sv e => by
    rw [List.getElem?_map] at e
    cases z : ds[i]? with
    | none => rw [z] at e; cases e
    | some o =>
      rw [z] at e
      cases o with
      | none => cases e; exact .inl rfl
      | some x => cases e; exact .inr ⟨x, rfl, rfl⟩
  have no : ∀ (i : Nat) (sv : SV), (embs ds)[i]? = some sv → sv.isOwn = true → False := fun i sv e ho => by
    rcases key i sv e with rfl | ⟨x, rfl, _⟩ <;> cases ho
  refine ⟨by rw [List.length_map, hl], fun i sv e => ?_, fun i sv a e ho => (no i sv e ho).elim, fun i j sv sv' a _ e _ ho => (no i sv e ho).elim, J.dom, fun a o e _ => e, fun p e => ?_, fun a h => ⟨h.2, h.1⟩, fun p hp => ⟨⟨(J.tabN hp).2.2, (J.tabN hp).1⟩, (J.tab p hp).2⟩, fun a nd e => ⟨(J.mu a nd e).1, (J.mu a nd e).2.1, .inl (by show n.μ a ≠ none; rw [e]; exact fun z => nomatch z), (J.mu a nd e).2.2.2⟩, fun a h => ⟨h, (J.muS h).2⟩, J.mz⟩
  · rcases key i sv e with rfl | ⟨x, rfl, e2⟩
    · trivial
    · exact hd i x e2
  · obtain ⟨h1, h2, h3, _⟩ := J.pen p e
    obtain ⟨k1, k2⟩ := G.there h1
    exact ⟨h1, h2, h3, k1, k2⟩
end
section
variable {G : PenK} {X : Cx} {Wx : WX}
end
end PL

/-! The layer: the end of a law's row, with tables of code objects. -/
namespace PL
open PySem PySem.Spec PyProof.Rows L2 LamX
section
variable {P : Program} {w : World} {K : PySem.W.Frag} {mg mb : Str → Option Value}
/-- the tables of the module's defs are empty -/
def TabsOf (q : Program) (mg : Str → Option Value) (h : Heap) : Prop := ∀ x : Str, ((recsOf q).any fun e => e.name == x) = true → ∃ a o fd c P, mg x = some (.ref a) ∧ h.get? a = some o ∧ o.data = .func fd ∧ fd.code = .ref c ∧ h.IsCode c P #[] ∧ h.TableAt c P #[]
theorem TabsOf.at {K : PySem.W.Frag} {q : Program} {mg : Str → Option Value} {h : Heap} {x : Str} {f c P : Addr} {fd : FuncData} {oc : Value} {od : Option Addr} {osl : Array (Option Value)} (T : TabsOf q mg h) (hx : ((recsOf q).any fun e => e.name == x) = true) (X : K.In h) (hm : mg x = some (.ref f)) (lk : K.lookup f = some ⟨oc, od, .func fd, osl⟩)
    (ct : fd.code = .ref c ∧ ∃ (o : Obj) (vs : Array Value), h.get? c = some o ∧ o.data = .fields vs ∧ vs[11]? = some (.ref P)) : PySem.W.CodeHd h c P ∧ h.get? P = some { cls := .none, data := .fields #[] } := by
  obtain ⟨a, o, fd', c', P', h1, h2, h3, h4, h5, h6⟩ := T x hx
  rw [hm] at h1
  cases h1
  have g1 := X _ _ lk
  rw [h2] at g1
  cases g1
  cases h3
  obtain ⟨e1, o1, vs, e2, e3, e4⟩ := ct
  rw [h4] at e1
  cases e1
  obtain ⟨⟨o2, vs2, f1, f2, f3, f4⟩, f5⟩ := id h6
  rw [e2] at f1
  cases f1
  rw [e3] at f3
  cases f3
  rw [e4] at f4
  cases f4
  exact ⟨.of h5 h6, f5⟩
end
end PL

/-! The layer: count and index of a list of truth values. -/
namespace PL
open PySem PySem.Spec L2
section
variable {X : Cx}
end
section
variable {G : PenK} {X : Cx} {Wx : WX}
theorem u65 {A : Around} {k : Nat} (r : Room k A) : A.units + 65 < cLine := by
  have := r.un
  omega
theorem nmB {x : Str} {c : Value} (hd : (x == ("__debug__" : Str)) = false) (hm : X.mg x = none) (hv : bootBuiltins x = some c) (hn : x ≠ "__name__") (hg : Gl X x := by rfl) : Names X x c := ⟨hg, hd, .inr ⟨hm, hv, hn⟩⟩
end
end PL

/-! errors: raise X() of a class without fields. -/
namespace PL
open PySem PySem.Spec PyProof.Rows L2
section
variable {X : Cx} {C : Addr} {bmB : List Value} {B newId initId : String}
end
section
variable {G : PenK} {X : Cx} {Wx : WX} {γ : Type} {En : Enz γ} {ρ : Env} {rest : List Stmt} {m : W γ}
end
end PL

/-! The layer: min(xs, default=None) of ints. -/
namespace PL
open PySem PySem.Spec PyProof.Rows L2
/-- the least of some ints, or None -/
def minNo (l : List Int) : D := match l with
  | [] => .non
  | i :: is => .int (is.foldl min i)
def minNV (l : List Int) : V := match l with
  | [] => .non
  | i :: is => .int (is.foldl min i)
def rMinN (K : PySem.W.Frag) : List V → List V → Hp → VK → Prop := fun vs zs H Q => ∃ (a : Addr) (ns : List Int), vs = [V.ref a] ∧ zs = [V.non] ∧ SqL K H a (ns.map V.int) ∧ Q (minNV ns) H
theorem alike_ints (ns : List Int) : PySem.W.AlikeAll (ns.map PyData.int) := by
  refine ⟨fun x hx y hy => ?_, fun x hx => ?_⟩
  · obtain ⟨i, _, rfl⟩ := List.mem_map.mp hx
    obtain ⟨j, _, rfl⟩ := List.mem_map.mp hy
    rfl
  · obtain ⟨i, _, rfl⟩ := List.mem_map.mp hx
    exact fun z => nomatch z
theorem depth_ints : ∀ ns : List Int, PyData.depthAll (ns.map PyData.int) = 0
  | [] => rfl
  | i :: ns => by
    simp only [List.map_cons, PyData.depthAll, PyData.depth, depth_ints ns]
    rfl
theorem cr_minN {X : Cx} (hc : X.calm = true) (hu : X.A.units + 65 < cLine) : CallRK X (.builtin "min") [Str.ofString "default"] (rMinN X.K) := by
  intro pins s σ H vs zs us ws Q I r rz h
  obtain ⟨a, ns, rfl, rfl, hs, q⟩ := h
  obtain rfl := Vals.ref1 r
  obtain ⟨w1, rfl, e1⟩ := vals1 rz
  obtain rfl : w1 = Value.none := e1
  obtain ⟨its, rv, hl, _⟩ := I.list hs
  have hi := rv.ints
  refine PySem.W.min_list_default (xs := ns.map PyData.int) (as := []) (I.ok.hd hc) hl.isList (IntsAre.reads s.heap hi) (alike_ints ns) (by rw [depth_ints]; omega) (fun e h' tk hk => ?_) fun y ys i v h' tk bs e hv hr hk => ?_
  · cases ns with
    | nil => exact ⟨.non, H, I.kept hk, rfl, q⟩
    | cons _ _ => cases e
  · cases ns with
    | nil => cases e
    | cons n ns =>
      obtain ⟨rfl, rfl⟩ := List.cons.inj e
      rw [PySem.W.minD_ints] at hr
      obtain ⟨t, rfl, _⟩ := reads_int_inv hr
      exact ⟨.int (ns.foldl min n), H, I.kept hk, ⟨_, rfl⟩, q⟩
def minNW : D → W D
  | .lst xs => bnd (optW (intsL xs)) fun l => ret (minNo l)
  | _ => stuck
section
variable {G : PenK} {X : Cx} {Wx : WX}
theorem minNo_rep {K : PySem.W.Frag} {S : Addr → Prop} {H : Hp} (l : List Int) : Rep K S H (minNo l) (minNV l) := by
  cases l <;> exact rfl
/-- min(xs, default=None) -/
theorem e_minN {p pos kpos cp : Pos} {e : Expr} {g : Env → W D} (hc : X.calm = true) (hm : X.mg "min" = none) (hu : X.A.units + 65 < cLine) (h : E G X Wx e g) (hg : Gl X "min" := by rfl)
    (hs : starEach [e] X.env = (false, eval e X.env) :: starEach [] X.env := by rfl) (he : backTo pos (starEach [e] X.env) = (false, eval e X.env) :: backTo pos (starEach [] X.env) := by rfl) (hpl : (backTo pos (starEach [e] X.env)).any (·.1) = false := by rfl)
    (hall : (backToKw pos (keywordEach [⟨some (Str.ofString "default"), .Constant .none 0 cp, kpos⟩] X.env)).all (·.1.isSome) = true := by rfl) (hnone : (backToKw pos (keywordEach [⟨some (Str.ofString "default"), .Constant .none 0 cp, kpos⟩] X.env)).any (·.1.isNone) = false := by rfl)
    (hks : (backToKw pos (keywordEach [⟨some (Str.ofString "default"), .Constant .none 0 cp, kpos⟩] X.env)).filterMap (·.1) = [Str.ofString "default"] := by rfl) :
    E G X Wx (.Call (.Name "min" p) [e] [⟨some (Str.ofString "default"), .Constant .none 0 cp, kpos⟩] pos) (fun ρ => bnd (g ρ) minNW) := by
  refine weakE (pe_callBK (cr_minN hc hu) hg hm (by decide +kernel) (pa_cons h pa_nil hs) (pk_cons pe_non pk_nil) (by decide) (by decide) he hpl hall hnone hks) fun σ H Q ⟨c, ρ, n, P, PX, I, q, hgo, hx⟩ => ?_
  refine tE.bnd (f := minNW) I q hx fun d k v S' H' p g I' hx' r => ?_
  cases d with
  | lst xs =>
    obtain ⟨a, vs, rfl, r1, z, q1⟩ := r
    obtain ⟨l, el, q⟩ := optW_inv (show optW (intsL xs) k (fun l k => P (minNo l) k) PX from p)
    obtain rfl := reps_ints q1 el
    exact ⟨a, l, rfl, rfl, r1.sq, hgo (minNo l) k _ _ _ q g I' (minNo_rep l)⟩
  | _ => exact False.elim p
end
end PL

/-! The layer: objects that are changed (lists of data without parts, of objects), told in the state. -/
namespace PL
open PySem PySem.Spec PyProof.Rows L2
def PenK.wc (G : PenK) (b : Bool) : PenK := { G with chg := b }
def setM (μ : Addr → Option Nd) (a : Addr) (nd : Nd) : Addr → Option Nd := fun b => if b = a then some nd else μ b
theorem setM_same {μ : Addr → Option Nd} {a : Addr} {nd : Nd} : setM μ a nd a = some nd := if_pos rfl
theorem setM_ne {μ : Addr → Option Nd} {a b : Addr} {nd : Nd} (h : b ≠ a) : setM μ a nd b = μ b := if_neg h
theorem setM_some {μ : Addr → Option Nd} {a b : Addr} {nd : Nd} (h : μ b ≠ none) : setM μ a nd b ≠ none := by
  unfold setM
  split
  · exact fun z => nomatch z
  · exact h
section
variable {G : PenK} {K : PySem.W.Frag} {c : C} {σ : L2.St} {ρ : Env} {H : Hp} {n : Nt} {a : Addr} {o : HO} {nd : Nd}
/-- an object is changed -/
theorem SI.st (I : SI G K c σ H ρ n) (ha : n.μ a ≠ none) (r : NdOk K c.S (upd H a o) a nd) : SI G K c σ (upd H a o) ρ ⟨n.n, setM n.μ a nd⟩ ∧ Grow c.S c.S H (upd H a o) := by
  obtain ⟨nd0, e0⟩ := Option.ne_none_iff_exists'.mp ha
  obtain ⟨m1, m2, m3, m4⟩ := I.mu a nd0 e0
  have g : Grow c.S c.S H (upd H a o) := ⟨fun _ q => q, fun b q => upd_ne fun z => m2 (z ▸ q)⟩
  have neO : ∀ i sv b, ρ[i]? = some sv → sv.isOwn = true → slot σ i = some (.ref b) → b ≠ a := fun i sv b e ho es z => by
    have := (I.own i sv b e ho es).2.2
    rw [z, e0] at this
    cases this
  refine ⟨⟨I.len, fun i sv e => (I.slots i sv e).grow g fun b eb ho => upd_ne (neO i sv b e ho eb), fun i sv b e ho es => ⟨(I.own i sv b e ho es).1, (I.own i sv b e ho es).2.1, ?_⟩, I.apart, fun b q => by rw [g.eq b q]; exact I.dom b q, fun b u e hn => ?_, fun p e => ?_, I.no, fun q e => ⟨(I.tab q e).1, (I.tab q e).2.grow g (upd_ne fun z => m4 (.inr ⟨q, e, z.symm⟩))⟩, fun b md e => ?_, fun b h => ⟨setM_some (I.mu0 b h).1, (I.mu0 b h).2⟩, fun z => ?_⟩, g⟩
  · show setM n.μ a nd b = none
    rw [setM_ne (neO i sv b e ho es)]
    exact (I.own i sv b e ho es).2.2
  · rw [upd_ne fun z => by
      rcases m3 with w | w
      · exact hn (.inr (z ▸ w))
      · rw [z, w] at e; cases e]
    exact I.fr b u e hn
  · obtain ⟨h1, h2, h3, h4, h5⟩ := I.pen p e
    exact ⟨G.dep h1 (upd_ne fun z => m4 (.inl ⟨p, e, .inl z.symm⟩)) (upd_ne fun z => m4 (.inl ⟨p, e, .inr z.symm⟩)), h2, h3, h4, h5⟩
  · have e : setM n.μ a nd b = some md := e
    by_cases z : b = a
    · rw [z] at e ⊢
      rw [setM_same] at e
      cases e
      exact ⟨r, m2, m3, m4⟩
    · rw [setM_ne z] at e
      exact ⟨(I.mu b md e).1.move (upd_ne z), (I.mu b md e).2⟩
  · have := I.mz z a
    rw [e0] at this
    cases this
end
/-! ### a name that holds an object -/
def lstM (n : Nt) (a : Addr) : Option (List Ob) := match n.μ a with
  | some (.lst xs) => some xs
  | _ => none
/-- what stands at a place of an object: data -/
def ixOb (a : Addr) (d : D) : W D := fun n P _ => ∃ (xs : List Ob) (j : Int) (x : D), lstM n a = some xs ∧ d = .int j ∧ atI xs j = some (.d x) ∧ P x n
/-- a new object -/
def mkL (xs : List D) : W Addr := fun n P _ => xs.all D.sc = true ∧ ∀ a, n.μ a = none → P a ⟨n.n, setM n.μ a (.lst (xs.map .d))⟩
section
variable {G : PenK} {X : Cx} {Wx : WX} {γ : Type} {En : Enz γ} {ρ : Env} {rest : List Stmt} {m : W γ}
/-! ### objects as arguments -/
end
/-! ### an item of a list of one's own is set -/
section
variable {G : PenK} {X : Cx} {Wx : WX} {γ : Type} {En : Enz γ} {ρ : Env} {rest : List Stmt} {m : W γ}
end
end PL

/-! The layer: x in a list of data of any depth. -/
namespace PL
open PySem PySem.Spec PyProof.Rows L2
section
variable {G : PenK} {X : Cx} {Wx : WX}
variable {γ : Type} {En : Enz γ} {ρ ρ' : Env} {rest : List Stmt} {m : W γ}
/-- a, b = e, where both are plain -/
theorem sg_asg2P {tg e : Expr} {pos : Pos} {g : Env → W D} {z1 z2 : D} (i j L : Nat) (h : E G X Wx e g) (ht : PTg X tg (.tp [.nm i, .nm j])) (hg : bnd (g ρ) unp2 = ret (z1, z2)) (hL : ρ.length = L) (hi : i < L) (hj : j < L) (hij : j ≠ i) (hρ : (ρ.set i (.d z1)).set j (.d z2) = ρ') (hr : SG G X Wx rest ρ' En m)
    (h1 : (assignEach [tg] X.env).map (·.2) = [assign tg X.env] := by rfl) (hs : swapsWithSole [tg] e pos.line X.env = pure false := by rfl) (hw : swappedStores [tg] e X.env = pure none := by rfl) : SG G X Wx (.Assign [tg] e pos :: rest) ρ En m :=
  sg_asg2 (m0 := ret ()) (f1 := fun _ => z1) (f2 := fun _ => z2) (k := fun _ => m) (ρ' := fun _ => ρ') i j L h ht hg (fun _ _ _ _ => rfl) hL hi hj hij (fun _ => hρ) (fun _ => hr) h1 hs hw
end
end PL

/-! Plain laws with objects: GenM S m c Q says that m, begun where S holds of the objects, ends under Q with S, after at most c draws. -/
namespace PL
open PySem PySem.Spec L2
def GenM {α : Type} (S : (Addr → Option Nd) → Prop) (m : W α) (c : Nat) (Q : α → Prop) : Prop := ∀ (n : Nt) (P : α → Nt → Prop) (PX : Exc → Nt → Prop), n.n + c ≤ drawMax → S n.μ → (∀ a (k : Nt), Q a → n.n ≤ k.n → k.n ≤ n.n + c → S k.μ → P a k) → m n P PX
section
variable {α β J γ : Type} {S : (Addr → Option Nd) → Prop}
theorem Gen.m {m : W α} {c : Nat} {Q : α → Prop} (h : Gen m c Q) : GenM S m c Q := fun n P PX hn hs k => h n P PX hn fun a j q h1 h2 => k a ⟨j, n.μ⟩ q h1 h2 hs
theorem GenM.ret {a : α} {Q : α → Prop} (h : Q a) : GenM S (PL.ret a) 0 Q := (Gen.ret h).m
theorem GenM.bind {m : W α} {f : α → W β} {c d : Nat} {R : α → Prop} {Q : β → Prop} (h : GenM S m c R) (hf : ∀ a, R a → GenM S (f a) d Q) : GenM S (PL.bnd m f) (c + d) Q := fun n P PX hn hs k =>
  h n _ PX (by omega) hs fun a j q h1 h2 hs2 => hf a q j P PX (by omega) hs2 fun b i r h3 h4 hs3 => k b i r (Nat.le_trans h1 h3) (by omega) hs3
theorem GenM.le {m : W α} {c d : Nat} {Q R : α → Prop} (h : GenM S m c Q) (hc : c ≤ d) (hq : ∀ a, Q a → R a) : GenM S m d R := fun n P PX hn hs k => h n P PX (by omega) hs fun a j q h1 h2 h3 => k a j (hq a q) h1 (by omega) h3
theorem GenM.up {m : W α} {c d : Nat} {Q : α → Prop} (h : GenM S m c Q) (hc : c ≤ d) : GenM S m d Q := h.le hc fun _ q => q
theorem GenM.to {m : W α} {c : Nat} {Q R : α → Prop} (h : GenM S m c Q) (hq : ∀ a, Q a → R a) : GenM S m c R := h.le (Nat.le_refl _) hq
theorem GenM.dr {b : Int} {f : Int → W β} {c : Nat} {Q : β → Prop} (h0 : 0 < b) (h1 : b < 1073741824) (k : ∀ r : Int, 0 ≤ r → r < b → GenM S (f r) c Q) : GenM S (PL.bnd (drw b) f) (1 + c) Q :=
  GenM.bind (R := fun r => 0 ≤ r ∧ r < b) (Gen.dr0 (c := 0) h0 h1 fun r a b => ⟨a, b⟩).m fun r ⟨a, b⟩ => k r a b
theorem GenM.cond {b : Bool} {m m' : W α} {c d : Nat} {Q : α → Prop} (h1 : b = true → GenM S m c Q) (h2 : b = false → GenM S m' d Q) : GenM S (if b = true then m else m') (Nat.max c d) Q := by
  cases b with
  | true => rw [if_pos rfl]; exact (h1 rfl).up (Nat.le_max_left _ _)
  | false => rw [if_neg (by decide)]; exact (h2 rfl).up (Nat.le_max_right _ _)
theorem GenM.forI {bd : α → J → W (Step J γ)} {k : J → W γ} {c d N : Nat} {I : Nat → J → Prop} {Q : γ → Prop} : ∀ {xs : List α} {i : Nat} {j : J}, xs.length + i ≤ N → (∀ x ∈ xs, ∀ i j, i < N → I i j → GenM S (bd x j) c fun o => ∃ j', o = .go j' ∧ I (i + 1) j') → (∀ i j, i ≤ N → I i j → GenM S (k j) d Q) → I i j → GenM S (forT bd k xs j) (c * xs.length + d) Q
  | [], i, j, hn, hb, hk, h0 => (hk i j (by simpa using hn) h0).up (by omega)
  | x :: xs, i, j, hn, hb, hk, h0 => by
    have hn2 : xs.length + 1 + i ≤ N := hn
    refine (GenM.bind (hb x List.mem_cons_self i j (by omega) h0) (d := c * xs.length + d) fun o ⟨j', e, h1⟩ => ?_).up (by rw [List.length_cons, Nat.mul_add]; omega)
    subst e
    exact GenM.forI (by omega) (fun y hy => hb y (List.mem_cons_of_mem _ hy)) hk h1
end
end PL

/-! The layer: xs += e with lists, xs.insert(i, e). -/
namespace PL
open PySem PySem.Spec L2 PyProof.Rows
section
variable {G : PenK} {X : Cx} {Wx : WX} {γ : Type} {En : Enz γ} {ρ : Env} {rest : List Stmt} {m : W γ}
end
end PL

/-! Plain laws with one list of two numbers that is changed: GenR a m c x y Q tells what m makes of them. -/
namespace PL
open PySem PySem.Spec L2
def GenR {α : Type} (a : Addr) (m : W α) (c : Nat) (x y : Int) (Q : α → Int → Int → Prop) : Prop := ∀ (n : Nt) (P : α → Nt → Prop) (PX : Exc → Nt → Prop), n.n + c ≤ drawMax → n.μ a = some (.lst [.d (.int x), .d (.int y)]) → (∀ v (k : Nt) x' y', Q v x' y' → n.n ≤ k.n → k.n ≤ n.n + c → k.μ a = some (.lst [.d (.int x'), .d (.int y')]) → P v k) → m n P PX
section
variable {α β J γ : Type} {a : Addr} {x y : Int}
theorem Gen.r {m : W α} {c : Nat} {Q : α → Prop} (h : Gen m c Q) : GenR a m c x y (fun v x' y' => Q v ∧ x' = x ∧ y' = y) := fun n P PX hn hs k => h n P PX hn fun v j q h1 h2 => k v ⟨j, n.μ⟩ x y ⟨q, rfl, rfl⟩ h1 h2 hs
theorem GenR.ret {v : α} {Q : α → Int → Int → Prop} (h : Q v x y) : GenR a (PL.ret v) 0 x y Q := fun n P PX _ hs k => k v n x y h (Nat.le_refl _) (Nat.le_refl _) hs
theorem GenR.bind {m : W α} {f : α → W β} {c d : Nat} {R : α → Int → Int → Prop} {Q : β → Int → Int → Prop} (h : GenR a m c x y R) (hf : ∀ v x' y', R v x' y' → GenR a (f v) d x' y' Q) : GenR a (PL.bnd m f) (c + d) x y Q := fun n P PX hn hs k =>
  h n _ PX (by omega) hs fun v j x' y' q h1 h2 hs2 => hf v x' y' q j P PX (by omega) hs2 fun b i x2 y2 r h3 h4 hs3 => k b i x2 y2 r (Nat.le_trans h1 h3) (by omega) hs3
theorem GenR.le {m : W α} {c d : Nat} {Q R : α → Int → Int → Prop} (h : GenR a m c x y Q) (hc : c ≤ d) (hq : ∀ v x' y', Q v x' y' → R v x' y') : GenR a m d x y R := fun n P PX hn hs k => h n P PX (by omega) hs fun v j x' y' q h1 h2 h3 => k v j x' y' (hq v x' y' q) h1 (by omega) h3
theorem GenR.up {m : W α} {c d : Nat} {Q : α → Int → Int → Prop} (h : GenR a m c x y Q) (hc : c ≤ d) : GenR a m d x y Q := h.le hc fun _ _ _ q => q
theorem GenR.dr {b : Int} {f : Int → W β} {c : Nat} {Q : β → Int → Int → Prop} (h0 : 0 < b) (h1 : b < 1073741824) (k : ∀ r : Int, 0 ≤ r → r < b → GenR a (f r) c x y Q) : GenR a (PL.bnd (drw b) f) (1 + c) x y Q :=
  GenR.bind (Gen.r (Q := fun r => 0 ≤ r ∧ r < b) (Gen.dr0 (c := 0) h0 h1 fun r p q => ⟨p, q⟩)) fun r x' y' ⟨⟨p, q⟩, e1, e2⟩ => by
    subst e1 e2
    exact k r p q
theorem GenR.cond {b : Bool} {m m' : W α} {c d : Nat} {Q : α → Int → Int → Prop} (h1 : b = true → GenR a m c x y Q) (h2 : b = false → GenR a m' d x y Q) : GenR a (if b = true then m else m') (Nat.max c d) x y Q := by
  cases b with
  | true => rw [if_pos rfl]; exact (h1 rfl).up (Nat.le_max_left _ _)
  | false => rw [if_neg (by decide)]; exact (h2 rfl).up (Nat.le_max_right _ _)
theorem GenR.forI {bd : α → J → W (Step J γ)} {k : J → W γ} {c d N : Nat} {I : Nat → J → Int → Int → Prop} {Q : γ → Int → Int → Prop} : ∀ {xs : List α} {i : Nat} {j : J} {x y : Int}, xs.length + i ≤ N → (∀ e ∈ xs, ∀ i j x y, i < N → I i j x y → GenR a (bd e j) c x y fun o x' y' => ∃ j', o = .go j' ∧ I (i + 1) j' x' y') → (∀ i j x y, i ≤ N → I i j x y → GenR a (k j) d x y Q) → I i j x y → GenR a (forT bd k xs j) (c * xs.length + d) x y Q
  | [], i, j, x, y, hn, hb, hk, h0 => (hk i j x y (by simpa using hn) h0).up (by omega)
  | e :: xs, i, j, x, y, hn, hb, hk, h0 => by
    have hn2 : xs.length + 1 + i ≤ N := hn
    refine (GenR.bind (hb e List.mem_cons_self i j x y (by omega) h0) (d := c * xs.length + d) fun o x' y' ⟨j', eo, h1⟩ => ?_).up (by rw [List.length_cons, Nat.mul_add]; omega)
    subst eo
    exact GenR.forI (by omega) (fun z hz => hb z (List.mem_cons_of_mem _ hz)) hk h1
theorem GenR.ix0 : GenR a (ixOb a (.int 0)) 0 x y (fun d x' y' => d = .int x ∧ x' = x ∧ y' = y) := fun n P PX _ hs k =>
  ⟨[.d (.int x), .d (.int y)], 0, .int x, by unfold lstM; rw [hs], rfl, atI_nat (j := 0) rfl, k _ n x y ⟨rfl, rfl, rfl⟩ (Nat.le_refl _) (Nat.le_refl _) hs⟩
theorem GenR.ix1 : GenR a (ixOb a (.int 1)) 0 x y (fun d x' y' => d = .int y ∧ x' = x ∧ y' = y) := fun n P PX _ hs k =>
  ⟨[.d (.int x), .d (.int y)], 1, .int y, by unfold lstM; rw [hs], rfl, atI_nat (j := 1) rfl, k _ n x y ⟨rfl, rfl, rfl⟩ (Nat.le_refl _) (Nat.le_refl _) hs⟩
theorem GenR.mk {f : Addr → W α} {c : Nat} {Q : α → Prop} (h : ∀ a, GenR a (f a) c x y (fun v _ _ => Q v)) : GenM (fun _ => True) (bnd (mkL [.int x, .int y]) f) c Q := fun n P PX hn _ k =>
  ⟨rfl, fun a _ => h a ⟨n.n, setM n.μ a (.lst [.d (.int x), .d (.int y)])⟩ P PX hn setM_same fun v j _ _ q h1 h2 _ => k v j q h1 h2 trivial⟩
end
end PL

/-! Instances of own classes that stay as they were made: made, read, called; methods are defs over data. -/
namespace PL
open PySem PySem.Spec L2 PyProof.Rows
section
variable {G : PenK} {X : Cx} {Wx : WX}
/-! ### how a method is known -/
structure KnM (G : PenK) (X : Cx) (k : Nat) (f : Addr) (fd : FuncData) (ps : List Str) (m : List SV → W D) : Prop where
  F : FnG X.prog X.w X.K X.mg X.base k f fd ps (spM G X.K X.mg ps.length m)
  bd : Binds X.K fd ps []
theorem InsC.same {K : PySem.W.Frag} {c f : Str} {C C' : Addr} (h : InsC K c f C) (h' : InsC K c f C') : C' = C := by
  have := h'.at_.symm.trans h.at_
  cases this
  rfl
end
/-! ### an instance is made -/
/-- what an __init__ promises: self gets its one field -/
def spI (G : PenK) (K : PySem.W.Frag) (mg : Str → Option Value) (ps : Nat) (f : Str) (m : List SV → W D) : Sp := fun vs H Q E =>
  ∃ (x C dx : Addr) (ws : List V) (S : Addr → Prop) (pen : Option (Addr × Addr)) (args : List SV) (n : Nt) (P : D → Nt → Prop) (PX : Exc → Nt → Prop),
    vs = .ref x :: ws ∧ H x = some (.ins C dx []) ∧ Cls K C ∧ NoAttr K C f ∧ n.μ x = none ∧
    args.length = ps ∧ (∀ a, S a → H a ≠ none) ∧ (∀ p, pen = some p → G.inv H p.1 p.2 n.n ∧ ¬ S p.1 ∧ ¬ S p.2) ∧ (∀ q ∈ G.tab, ¬ S q.1 ∧ TabI S H q.1 q.2) ∧ MuOk G K S H pen n ∧ ArgsOk K S H pen args ws ∧ m args n P PX ∧
    (∀ d k v S' H', P d k → After G K S S' pen n H H' k → Rep K S' H' d v → Q .non (upd H' x (.ins C dx [(f, v)]))) ∧ ∀ x k S' H' cls dd, PX x k → After G K S S' pen n H H' k → RepX K mg S' H' x cls dd → E cls dd H'
section
variable {G : PenK} {P : Program} {w : World} {K : PySem.W.Frag} {mg : Str → Option Value} {base : Heap}
/-- a def whose parameters may have defaults -/
structure FunI (K : PySem.W.Frag) (x qual : Str) (st : Stmt) (f : Addr) (fd : FuncData) : Prop where
  ex : ∃ (oc : Value) (od : Option Addr) (dV kV doc pm : Value) (an : Option Addr) (cdv ct : Value) (osl : Array (Option Value)),
    fd = PySem.W.fnOf x qual (defArgs st) (defBody st) (defScope st) dV kV doc pm an cdv ct ∧ K.lookup f = some ⟨oc, od, .func fd, osl⟩ ∧ PySem.W.codeIn K cdv qual = true
end
section
variable {G : PenK} {X : Cx} {Wx : WX}
/-- how a class is known whose instances are made -/
structure KnI (G : PenK) (X : Cx) (k : Nat) (C fI : Addr) (fd : FuncData) (sn : Str) (ps : List Str) (cn f : Str) (m : List SV → W D) : Prop where
  F : FnG X.prog X.w X.K X.mg X.base k fI fd (sn :: ps) (spI G X.K X.mg ps.length f m)
  M : Mk X.K C fI
  ic : InsC X.K cn f C
  bd : Binds X.K fd (sn :: ps) []
end
end PL

/-! What the kernel reads of a class; xs.pop(i) as a statement; xs = xs + ys; for i, (a, b) in enumerate(..). -/
namespace PL
open PySem PySem.Spec L2 PyProof.Rows
section
variable {K : PySem.W.Frag} {C p g fI : Addr} {c f mn : Str}
end
section
variable {G : PenK} {X : Cx} {Wx : WX}
section
variable {γ : Type} {En : Enz γ} {ρ : Env} {rest : List Stmt}
end
end
section
variable {K : PySem.W.Frag}
end
section
variable {G : PenK} {X : Cx} {Wx : WX} {γ : Type} {En : Enz γ} {ρ : Env} {rest : List Stmt}
end
/-! ### constants of the module: tuples of tuples -/
end PL

/-! The source [cells, turn, rest] with tables and changing objects; what a law wants of its source. -/
namespace PL
open PySem PySem.Spec L2
/-- the state of the source behind a change of its list alone -/
theorem After.drawW {S : Addr → Prop} {H H2 : Hp} {a b : Addr} {cs : List Int} {t g : Int} {k : Nat} (hne : a ≠ b) (dom : ∀ x, S x → H x ≠ none) (ha : H a ≠ none) (nSa : ¬ S a) (nSb : ¬ S b) (hb : H b = some (.lst (cs.map V.int))) {T : List (Addr × Str)} {mg : Str → Option Value} (htb : ∀ q ∈ T, ¬ S q.1 ∧ TabI S H q.1 q.2) (haL : ∃ xs, H a = some (.lst xs)) {K : PySem.W.Frag} {n : Nt} {bb : Bool} (hm : MuOk ((penG.wt T mg).wc bb) K S H (some (a, b)) n)
    (sm : ∀ x o, x ≠ a → H x = some o → H2 x = some o) (h2 : H2 a = some (.lst [.ref b, .int t, .int g])) (h3 : cs.length ≤ 63) (ht : 0 ≤ t) (hk : t ≤ k) (hg : 0 ≤ g) : After ((penG.wt T mg).wc bb) K S S (some (a, b)) n H H2 ⟨k, n.μ⟩ := by
  have eqS : ∀ x, S x → H2 x = H x := fun x hx => by
    cases e : H x with
    | none => exact absurd e (dom x hx)
    | some o => exact sm x o (fun z => nSa (z ▸ hx)) e
  refine ⟨⟨fun _ h => h, eqS⟩, fun x hx => by rw [eqS x hx]; exact dom x hx, fun x hx => .inl hx, fun x o e hp _ _ => sm x o (hp (a, b) rfl).1 e, fun q hq => TabI.grow ⟨fun _ h => h, eqS⟩ (tab_eq sm (htb q hq).2 haL) (htb q hq).2, fun p e => ?_, fun x nd e => ?_, fun _ h => h, hm.2⟩
  · cases e
    exact ⟨⟨hne, cs, t, g, h2, sm b _ (Ne.symm hne) hb, h3, ht, hk, hg⟩, nSa, nSb⟩
  · obtain ⟨m1, m2, m3, m4⟩ := hm.1 x nd e
    obtain ⟨o, eo⟩ := Option.ne_none_iff_exists'.mp m1.there
    exact ⟨m1.grow ⟨fun _ h => h, eqS⟩ ((sm x o (m3 (a, b) rfl).1 eo).trans eo.symm), m2, .inl (by rw [e]; exact fun z => nomatch z)⟩
end PL

/-! Texts: split, upper, int(text), str(x). try: v = e. -/
namespace PL
open PySem PySem.Spec PyProof.Rows L2
section
variable {G : PenK} {X : Cx} {Wx : WX}
end
section
variable {G : PenK} {X : Cx} {Wx : WX} {γ : Type} {En : Enz γ} {ρ : Env} {rest : List Stmt} {m : W γ}
end
end PL

/-! Texts parted; x, *ys = a list; enumerate(list, start=k). -/
namespace PL
open PySem PySem.Spec PyProof.Rows L2
section
variable {X : Cx} {pins : List (Addr × Obj)} {σ : L2.St} {H : Hp} {s : Shared}
end
section
variable {G : PenK} {X : Cx} {Wx : WX}
end
/-! ### x, *ys = a list -/
section
variable {G : PenK} {X : Cx} {Wx : WX} {γ : Type} {En : Enz γ} {ρ : Env} {rest : List Stmt} {m : W γ}
end
/-! ### enumerate(list, start=k) -/
section
variable {G : PenK} {X : Cx} {Wx : WX}
end
/-! ### str(x) of more, text * int -/
/-- what str(x) gives -/
inductive StrX : D → Str → Prop
  | str (a : Str) : a.length ≤ sizeLine → StrX (.str a) a
  | int (i : Int) : i.natAbs.log2 < 1920 → (toString i : Str).length ≤ sizeLine → StrX (.int i) (toString i)
  | non : StrX .non (Str.ofString "None")
  | lst (xs : List D) : (py (.lst xs)).showable = true → (py (.lst xs)).shown.length ≤ sizeLine → (py (.lst xs)).depth ≤ 60 → (py (.lst xs)).hasDict = false → StrX (.lst xs) (py (.lst xs)).shown
theorem StrX.len {d : D} {y : Str} (h : StrX d y) : y.length ≤ sizeLine := by
  cases h with
  | str _ h => exact h
  | int i h1 h2 => exact h2
  | non => decide +kernel
  | lst xs h1 h2 h3 h4 => exact h2
theorem op_mulStr {X : Cx} : OpR X (binaryOp .Mult) (fun x y H Q => ∃ a n, x = .str a ∧ y = .int n ∧ MulOk a n ∧ Q (.str (Txt.mul a n)) H) := by
  intro pins s σ H x y v u Q I rx ry h
  obtain ⟨a, n, rfl, rfl, hm, q⟩ := h
  obtain ⟨t, rfl⟩ := rx
  obtain ⟨t', rfl⟩ := ry
  exact PySem.SB.mul hm fun t2 k => ⟨.str _, H, I.tok k, ⟨_, rfl⟩, q⟩
def repS (a : Str) (n : Int) : W Str := grd (MulOk a n ∧ (Txt.mul a n).length ≤ sizeLine) (ret (Txt.mul a n))
def repSD (x y : D) : W D := match x, y with
  | .str a, .int n => bnd (repS a n) fun z => ret (.str z)
  | _, _ => stuck
theorem e_repS {G : PenK} {X : Cx} {Wx : WX} {a b : Expr} {pos : Pos} {ga gb : Env → W D} (ha : E G X Wx a ga) (hb : E G X Wx b gb) : E G X Wx (.BinOp a .Mult b pos) (fun ρ => bnd (ga ρ) fun x => bnd (gb ρ) fun y => repSD x y) :=
  e_op op_mulStr (by
    intro c σ ρ H n P PX d e v w Q I rd re h hg hx
    cases d with
    | str x =>
      cases e with
      | int k =>
        cases re
        obtain ⟨rfl, _⟩ := rd
        obtain ⟨⟨h1, h2⟩, h⟩ := h
        exact ⟨x, k, rfl, rfl, h1, hg.at (d := .str (Txt.mul x k)) h I ⟨rfl, h2⟩⟩
      | _ => exact False.elim h
    | _ => exact False.elim h) ha hb
/-! ### two defs that call each other -/
/-! ### x in a tuple of data of any depth -/
section
variable {G : PenK} {X : Cx} {Wx : WX}
end
end PL

/-! The items of a dict, one name for each. -/
namespace PySem
open Sem (wp)
open PySem.W (KdxIt)
section
variable {prog : Program} {w : World} {A : Around} {E : Value → Shared → Prop} {s : Shared}
theorem alive_any {a : Addr} {Q : Option Obj → Shared → Prop} (h : Q (s.heap.get? a) s) : wpAny (model prog w) A (loadIfAlive a) Q E s := fun _ _ _ => h
/-- the next pair, though the first one may still be held, or may be gone -/
theorem next_pair {it d a : Addr} {f : Bool} {i ep : Nat} {es : Array DictEntry} {ok ov : Value} {Q : Option Value → Shared → Prop} (hit : KdxIt s.heap it d i es.size ep ok ov a f) (hai : a ≠ it)
    (hm : s.heap.DictRaw d es ep) (hlt' : i < es.size)
    (hQ : ∀ h' ok' ov' a' f', KdxIt h' it d (i + 1) es.size ep ok' ov' a' f' → a' ≠ it →
      h'.get? s.heap.objs.size = some { cls := .type "tuple", data := .seq #[es[i].key, es[i].val] } →
      (∀ b o, b ≠ it → s.heap.get? b = some o → h'.get? b = some o) → Q (some (.ref s.heap.objs.size)) { s with heap := h' }) :
    wpAny (model prog w) A (pyNext (.ref it)) Q E s := by
  obtain ⟨hp, g, dr, tk, os⟩ := s
  obtain ⟨od, hod, hcd, hdd⟩ := id hm
  have hT : Shared.TypeIs ⟨hp, g, dr, tk, os⟩ (.ref it) "dict_itemiterator" := ⟨_, hit, rfl⟩
  unfold pyNext
  refine wpAny_bind (wpAny_attempt (wpAny_callSpecial?_slot (name := Str.ofString "__next__") hT PySem.F.slot_dict_itemiterator_next
    (wpAny_call_entry PySem.F.slot_dict_itemiterator_next hT PySem.F.entry_dict_itemiterator_next ?_ (PySem.F.args_dict_itemiterator_next_1 _))))
  refine wpAny_bind (wpAny_pure ?_)
  refine wpAny_bind ?_
  refine wpAny_bind ?_
  first | refine wpAny_bind (wpAny_typeNameOfWhole_itemiter hT (wpAny_pure ?_)) | refine wpAny_bind (wpAny_typeNameOf_itemiter hT (wpAny_pure ?_))
  refine wpAny_bind (wpAny_fieldsOf hit rfl ?_)
  have hown : Builtin.Dict_items.ownsTuple "dict_itemiterator" = true := by decide
  simp only [hown, if_true]
  show wpAny _ _ (if (Value.ref d == Value.none) = true then _ else _) _ _ _
  rw [if_neg (show ¬ ((Value.ref d == Value.none) = true) from Bool.false_ne_true)]
  refine wpAny_bind (wpAny_pure ?_)
  refine wpAny_bind (wpAny_dictEntries hod hdd ?_)
  rw [if_neg (by simp)]
  refine wpAny_bind (wpAny_pure ?_)
  refine wpAny_bind (wpAny_dictEpoch hod hdd ?_)
  rw [if_neg (by simp)]
  refine wpAny_pure ?_
  simp only [show ¬ ((i : Int) < 0) from by omega, if_false, Int.toNat_natCast, Array.getElem?_eq_getElem hlt']
  refine wpAny_bind ?_
  first | refine wpAny_bind (wpAny_typeNameOfWhole_itemiter hT (wpAny_pure ?_)) | refine wpAny_bind (wpAny_typeNameOf_itemiter hT (wpAny_pure ?_))
  refine wpAny_bind (wpAny_isOneOf_itemiter hT ?_)
  show wpAny _ _ (setField (.ref it) 3 (rawInt ((i : Int) + 1)) >>= _) _ _ ⟨hp, g, dr, tk, os⟩
  refine wpAny_bind (wpAny_setField_rec hit (by simp) fun h₁ he₁ hs₁ => ?_)
  replace hs₁ : Heap.SameBut it hp h₁ := hs₁
  replace he₁ : KdxIt h₁ it d (i + 1) es.size ep ok ov a f := by
    have e : ((i + 1 : Nat) : Int) = (i : Int) + 1 := by omega
    unfold KdxIt; rw [e]; simpa [rawInt] using he₁
  have hT₁ : Shared.TypeIs ⟨h₁, g, dr, tk, os⟩ (.ref it) "dict_itemiterator" := ⟨_, he₁, rfl⟩
  refine wpAny_bind (wpAny_holding ?_)
  refine wpAny_bind (wpAny_isOneOf_itemiter hT₁ ?_)
  refine wpAny_bind (wpAny_isOneOf_itemiter hT₁ ?_)
  show wpAny _ _ (Builtin.Dict_items.pairFromOwner (.ref it) 6 es[i].key es[i].val) _ _ ⟨h₁, g, dr, tk, os⟩
  unfold Builtin.Dict_items.pairFromOwner
  refine wpAny_bind (wpAny_newTuple ?_)
  have he₂ : KdxIt (h₁.push { cls := .type "tuple", data := .seq #[es[i].key, es[i].val] }) it d (i + 1) es.size ep ok ov a f := Heap.get?_push_of_some _ he₁
  generalize hh₂ : h₁.push { cls := .type "tuple", data := .seq #[es[i].key, es[i].val] } = h₂ at he₂
  have hz₁ : h₁.objs.size = hp.objs.size := hs₁.1
  have hil : it < hp.objs.size := Heap.lt_size hit
  have ht₂ : h₂.get? hp.objs.size = some { cls := .type "tuple", data := .seq #[es[i].key, es[i].val] } := by rw [← hh₂, ← hz₁]; exact Heap.get?_push_size _ rfl
  have hk₂ : ∀ b o, b ≠ it → hp.get? b = some o → h₂.get? b = some o := fun b o hb e => by rw [← hh₂]; exact Heap.get?_push_of_some _ (hs₁.extBut b o hb e)
  show wpAny _ _ (Builtin.Dict_items.ownedTupleIsFree (.ref it) >>= _) _ _ ⟨h₂, g, dr, tk, os⟩
  rw [hz₁]
  clear hh₂ he₁ hs₁ hT₁ hz₁ h₁
  have fin : ∀ (h₃ : Heap) ok' ov' a' f', KdxIt h₃ it d (i + 1) es.size ep ok' ov' a' f' → a' ≠ it → (∀ b o, b ≠ it → h₂.get? b = some o → h₃.get? b = some o) → Q (some (.ref hp.objs.size)) ⟨h₃, g, dr, tk, os⟩ := fun h₃ ok' ov' a' f' he₃ ha' hs₃ =>
    hQ h₃ ok' ov' a' f' he₃ ha' (hs₃ _ _ (Nat.ne_of_gt hil) ht₂) fun b o hb e => hs₃ b o hb (hk₂ b o hb e)
  refine wpAny_bind ?_
  unfold Builtin.Dict_items.ownedTupleIsFree
  refine wpAny_bind (wpAny_field he₂ rfl (x := rawInt a) rfl ?_)
  show wpAny _ _ (loadIfAlive ((a : Int).toNat) >>= _) _ _ _
  rw [Int.toNat_natCast]
  refine wpAny_bind (alive_any ?_)
  show wpAny _ _ _ _ _ _
  cases ha : h₂.get? a with
  | some oa =>
    simp only [ha, Option.isNone_some, Bool.false_eq_true, if_false]
    refine wpAny_bind (wpAny_field he₂ rfl (x := .bool f) rfl ?_)
    cases f with
    | true =>
      rw [if_neg (show ¬ ((Value.bool true != Value.bool true) = true) from Bool.false_ne_true)]
      refine wpAny_pure ?_
      simp only [Bool.false_eq_true, if_false]
      exact wpAny_pure (wpAny_pure ⟨_, rfl, wpAny_pure (fin h₂ _ _ _ _ he₂ hai fun _ _ _ e => e)⟩)
    | false =>
      rw [if_pos (show (Value.bool false != Value.bool true) = true from rfl)]
      refine wpAny_bind (wpAny_setField_rec he₂ (by simp) fun h₃ he₃ hs₃ => ?_)
      replace hs₃ : Heap.SameBut it h₂ h₃ := hs₃
      replace he₃ : KdxIt h₃ it d (i + 1) es.size ep ok ov a true := he₃
      refine wpAny_pure ?_
      simp only [Bool.false_eq_true, if_false]
      exact wpAny_pure (wpAny_pure ⟨_, rfl, wpAny_pure (fin h₃ _ _ _ _ he₃ hai fun b o hb e => hs₃.extBut b o hb e)⟩)
  | none =>
    simp only [ha, Option.isNone_none, if_true]
    refine wpAny_pure ?_
    simp only [if_true]
    refine wpAny_bind (wpAny_field he₂ rfl (x := ok) rfl ?_)
    refine wpAny_bind (wpAny_field he₂ rfl (x := ov) rfl ?_)
    refine wpAny_bind (wpAny_setField_rec he₂ (by simp) fun h₃ he₃ hs₃ => ?_)
    replace hs₃ : Heap.SameBut it h₂ h₃ := hs₃
    replace he₃ : KdxIt h₃ it d (i + 1) es.size ep es[i].key ov a f := he₃
    refine wpAny_bind (wpAny_setField_rec he₃ (by simp) fun h₄ he₄ hs₄ => ?_)
    replace hs₄ : Heap.SameBut it h₃ h₄ := hs₄
    replace he₄ : KdxIt h₄ it d (i + 1) es.size ep es[i].key es[i].val a f := he₄
    refine wpAny_bind (wpAny_setField_rec he₄ (by simp) fun h₅ he₅ hs₅ => ?_)
    replace hs₅ : Heap.SameBut it h₄ h₅ := hs₅
    replace he₅ : KdxIt h₅ it d (i + 1) es.size ep es[i].key es[i].val hp.objs.size f := he₅
    refine wpAny_bind (wpAny_setField_rec he₅ (by simp) fun h₆ he₆ hs₆ => ?_)
    replace hs₆ : Heap.SameBut it h₅ h₆ := hs₆
    replace he₆ : KdxIt h₆ it d (i + 1) es.size ep es[i].key es[i].val hp.objs.size false := he₆
    exact wpAny_bind (wpAny_letGo (wpAny_pure (wpAny_pure ⟨_, rfl, wpAny_pure (fin h₆ _ _ _ _ he₆ (Nat.ne_of_gt hil) fun b o hb e => hs₆.extBut b o hb (hs₅.extBut b o hb (hs₄.extBut b o hb (hs₃.extBut b o hb e))))⟩)))
end
end PySem
namespace PL
open PySem PySem.Spec PyProof.Rows L2
open PySem.W (KdxIt)
/-- the pairs of a dict, one name for each -/
def Ixi (d : Addr) (o : Obj) (kvs : List (Key × V)) : It :=
  ⟨fun i H => H d = some (.frz o (.dK kvs)) ∧ i < kvs.length,
    fun i H x H' => ∃ T k v ob, kvs[i]? = some (k, v) ∧ x = .ref T ∧ H T = none ∧ ob.dict = none ∧ H' = upd H T (.frz ob (.tup [kV k, v])),
    fun i H => H d = some (.frz o (.dK kvs)) ∧ kvs.length ≤ i⟩
theorem iterX_self {P : Program} {w : World} {A : Around} {E : Value → Shared → Prop} {s : Shared} {it : Addr} {ob : Obj} {Q : Value → Shared → Prop} (ho : s.heap.get? it = some ob) (hc : ob.cls = .type "dict_itemiterator") (h : Q (.ref it) s) : wpAny (model P w) A (pyIter (.ref it)) Q E s := by
  have hT : s.TypeIs (.ref it) "dict_itemiterator" := ⟨_, ho, hc⟩
  refine wpAny_pyIter_slot hT PySem.F.slot_dict_itemiterator_iter (wpAny_call_entry PySem.F.slot_dict_itemiterator_iter hT PySem.W.kcp_entry ?_ (PySem.F.args_dict_itemiterator_iter_1 _))
  show wpAny _ _ (PySem.ret (Value.ref it)) _ _ s
  exact wpAny_pure ⟨_, rfl, "dict_itemiterator", _, hT, PySem.F.slot_dict_itemiterator_next.lookup, h⟩
theorem turn_itemsX {P : Program} {w : World} {K : PySem.W.Frag} {d : Addr} {o : Obj} {es : Array DictEntry} {ep : Nat} {kvs : List (Key × V)} {nx : Str} {px : Pos} (it : Addr) (hod : o.data = .dict es ep) :
    Turn P w K (.Name nx px) (Ixi d o kvs) [it] it (fun i h => (∃ ok ov, IsItemIter h it d i kvs.length ep ok ov) ∨ ∃ ok ov a f, a ≠ it ∧ KdxIt h it d i kvs.length ep ok ov a f) where
  mem := by simp
  obj := fun i h st b hb => by
    have e : b = it := by simpa using hb
    subst e
    rcases st with ⟨ok, ov, e⟩ | ⟨ok, ov, a, f, _, e⟩
    · exact ⟨_, e, fun v z => nomatch z⟩
    · exact ⟨_, e, fun v z => nomatch z⟩
  keep := fun i h h' st k => by
    rcases st with ⟨ok, ov, e⟩ | ⟨ok, ov, a, f, n, e⟩
    · exact .inl ⟨ok, ov, k it (by simp) _ e⟩
    · exact .inr ⟨ok, ov, a, f, n, k it (by simp) _ e⟩
  item := by
    intro X hP hw hK hc i pins s σ H E I hf st hg
    subst hP hw hK
    obtain ⟨hd, hi⟩ := hg
    obtain ⟨hs, hgd, hx, es', ep', vs, hdt, hsz, kv, hm⟩ := I.frzK hd
    obtain ⟨e1, e2⟩ := dict_ep hod hdt
    subst es' ep'
    obtain ⟨⟨k, v⟩, hkv⟩ : ∃ p, kvs[i]? = some p := ⟨kvs[i], List.getElem?_eq_getElem hi⟩
    obtain ⟨u, hu, ru⟩ := kv_get kv hkv
    have hl : kvs.length = vs.length := Paired.length kv
    have hil : it < s.heap.objs.size := by
      rcases st with ⟨ok, ov, e⟩ | ⟨ok, ov, a, f, n, e⟩ <;> exact Heap.lt_size e
    have fin : ∀ (h' : Heap) (key : Value) ok' ov' a' f', keyIs k key = true → a' ≠ it → KdxIt h' it d (i + 1) kvs.length ep ok' ov' a' f' →
        h'.get? s.heap.objs.size = some { cls := .type "tuple", data := .seq #[key, u] } → (∀ b o, b ≠ it → s.heap.get? b = some o → h'.get? b = some o) →
        ∃ u', (some (Value.ref s.heap.objs.size)) = some u' ∧ wpAny (model X.prog X.w) X.A (letOwnedTupleGo (.Name nx px) (.ref it) u') (fun _ s2 => ∃ x H', Inv X pins σ H' s2 ∧ RelV x u' ∧ (Ixi d o kvs).yld i H x H' ∧ ((∃ ok ov, IsItemIter s2.heap it d (i + 1) kvs.length ep ok ov) ∨ ∃ ok ov a f, a ≠ it ∧ KdxIt s2.heap it d (i + 1) kvs.length ep ok ov a f) ∧ ∀ b ∈ [it], H' b = none) E { s with heap := h' } :=
      fun h' key ok' ov' a' f' hkey ha' hst hT hk => by
        refine ⟨_, rfl, ?_⟩
        show wpAny _ _ (pure ()) _ _ _
        refine wpAny_pure ?_
        have new : ObjOk X.prog X.w (upd H s.heap.objs.size (.frz { cls := .type "tuple", data := .seq #[key, u] } (.tup [kV k, v]))) h' s.heap.objs.size (.frz { cls := .type "tuple", data := .seq #[key, u] } (.tup [kV k, v])) :=
          ⟨hT, by show 2 ≤ sizeLine; decide, [key, u], .cons (relV_key hkey) (.cons ru .nil), ⟨_, hT, rfl, _, rfl⟩⟩
        have I1 : Inv X pins σ (upd H s.heap.objs.size (.frz { cls := .type "tuple", data := .seq #[key, u] } (.tup [kV k, v]))) { s with heap := h' } :=
          I.turnedNew (t' := s.toks) (ch := [it]) (fun b ob hb e => hk b ob (by simpa using hb) e) hf (Nat.le_refl _) new
        refine ⟨.ref s.heap.objs.size, _, I1, rfl, ⟨_, k, v, _, hkv, rfl, I.hok.fresh (Nat.le_refl _), rfl, rfl⟩, .inr ⟨ok', ov', a', f', ha', hst⟩, fun b hb => ?_⟩
        have e : b = it := by simpa using hb
        rw [e, upd_ne (Nat.ne_of_lt hil)]
        exact (hf it (by simp)).1
    rcases st with ⟨ok, ov, he⟩ | ⟨ok, ov, a, f, hai, he⟩
    · rw [hl] at he
      refine wpAny_pyNext_items_item he hm hu fun key h' hkey ho hT hz hk => ?_
      exact fin h' key _ _ _ false hkey (Nat.ne_of_gt hil) (by rw [hl]; exact ho) hT hk
    · obtain ⟨es2, hr, hsz2, hent⟩ := hm.raw
      rw [hl, ← hsz2] at he
      have hi2 : i < es2.size := by omega
      obtain ⟨hkey, hval⟩ := hent i hi2 k u hu
      refine next_pair he hai hr hi2 fun h' ok' ov' a' f' hst ha' hT hk => ?_
      rw [hval] at hT
      exact fin h' es2[i].key ok' ov' a' f' hkey ha' (by rw [hl, ← hsz2]; exact hst) hT hk
  done := by
    intro X hP hw hK hc i pins s σ H E I hf st hg
    subst hP hw hK
    obtain ⟨hd, hi⟩ := hg
    obtain ⟨f0, f1, f2, f3, f4, f5⟩ := hf it (by simp)
    obtain ⟨hs, hgd, hx, es', ep', vs, hdt, hsz, kv, hm⟩ := I.frzK hd
    obtain ⟨e1, e2⟩ := dict_ep hod hdt
    subst es' ep'
    have hl : kvs.length = vs.length := Paired.length kv
    rcases st with ⟨ok, ov, he⟩ | ⟨ok, ov, a, f, hai, he⟩
    · rw [hl] at he
      exact wpAny_pyNext_items_end (I.ok.hd hc) he hm (List.getElem?_eq_none (by omega)) fun h' eb => ⟨rfl, I.turned (t' := s.toks) (fun b ob hb e => eb b ob hb e) f0 f1 f3 f4 f5⟩
    · obtain ⟨es2, hr, hsz2, _⟩ := hm.raw
      rw [hl, ← hsz2] at he
      exact wpAny_pyNext_items_end_out_raw (I.ok.hd hc) he hr (by omega) fun h' eb => ⟨rfl, I.turned (t' := s.toks) (fun b ob hb e => eb b ob hb e) f0 f1 f3 f4 f5⟩
  self := fun A i s Q E st h => by
    rcases st with ⟨ok, ov, e⟩ | ⟨ok, ov, a, f, _, e⟩
    · exact iterX_self e rfl h
    · exact iterX_self e rfl h
section
variable {X : Cx} {e : Expr} {td : TE} {apos cpos px : Pos} {nx : Str}
def iItemsX (td : TE) : TI := fun σ H R => td σ H fun x H1 => ∃ d o kvs, x = .ref d ∧ H1 d = some (.frz o (.dK kvs)) ∧ R (Ixi d o kvs) H1
theorem pi_itemsX (he : PE X e td) (hbase : attributeBase e "items" X.env (eval e X.env) = eval e X.env := by rfl) (hline : (apos.endLine == cpos.line) = true := by rfl) :
    PI X (.Name nx px) (.Call (.Attribute e "items" apos) [] [] cpos) (iItemsX td) := by
  refine ⟨fun pins s σ H R I h => ?_⟩
  refine wpAny_Call_method (T := "dict") (id := "dict.items") hbase rfl hline F.plainAttrs_dict F.slot_dict_items F.type_dict_items (thn (he.run pins s σ H _ I h) fun u s1 ⟨x, H1, I1, rx, d, o, kvs, ex, hd, q⟩ => ?_)
  subst ex
  obtain rfl : u = Value.ref d := rx
  obtain ⟨hs, hgd, hx, es, ep, vs, hdt, hsz, kv, hm⟩ := I1.frzK hd
  have hl : kvs.length = vs.length := Paired.length kv
  refine ⟨hm.dictOf.typeIs, hm.dictOf.mapOf.noDict, ?_⟩
  have I2 : Inv X pins σ H1 { s1 with heap := s1.heap.push { cls := .type "dict_items", data := .fields #[.ref d] } } := I1.kept (t' := s1.toks) fun b ob q => Heap.get?_push_of_some _ q
  have fin : wpAny (model X.prog X.w) X.A (pyIter (.ref s1.heap.objs.size)) (PIE X pins σ (.Name nx px) R) X.xe { s1 with heap := s1.heap.push { cls := .type "dict_items", data := .fields #[.ref d] } } := by
    refine wpAny_pyIter_items (d := d) (knd := mixKind X.prog X.w) ⟨_, Heap.get?_push_size _ rfl, rfl, rfl⟩ (hm.push _) (pi_one (tk := s1.toks) I2 _ (turn_itemsX _ hdt) (.inl ⟨.none, .none, ?_⟩) q)
    rw [hl]
    exact Heap.get?_push_size _ rfl
  show wpAny _ _ (callWith cpos (.builtin "dict.items") [.ref d] [] []) _ X.xe s1
  exact method_meetsIn F.slot_dict_items F.entry_dict_items rfl (PySem.evalArgs_none ⟨rfl, hm.dictOf.typeIs, F.args_dict_items_1 _, _, meets_dict_items (mixKind X.prog X.w) d hs, ⟨vs, hm.dictOf⟩, fin⟩)
end
theorem RepK.at {K : PySem.W.Frag} {S : Addr → Prop} {H : Hp} : ∀ {kvs : List (Key × D)} {kws : List (Key × V)} {i : Nat} {k : Key} {x : D}, RepK K S H kvs kws → kvs[i]? = some (k, x) → ∃ v, kws[i]? = some (k, v) ∧ Rep K S H x v
  | [], _, _, _, _, _, e => by simp at e
  | (k0, x0) :: kvs, _, 0, k, x, h, e => by
    obtain ⟨v, ws, rfl, r, _⟩ := h
    cases e
    exact ⟨v, rfl, r⟩
  | (k0, x0) :: kvs, _, i + 1, k, x, h, e => by
    obtain ⟨v, ws, rfl, _, q⟩ := h
    obtain ⟨v', e1, e2⟩ := RepK.at q (by simpa using e)
    exact ⟨v', by simpa using e1, e2⟩
theorem RepK.lenX {K : PySem.W.Frag} {S : Addr → Prop} {H : Hp} : ∀ {kvs : List (Key × D)} {kws : List (Key × V)}, RepK K S H kvs kws → kws.length = kvs.length
  | [], _, h => by
    have e : _ = [] := h
    rw [e]
    rfl
  | (k0, x0) :: kvs, _, h => by
    obtain ⟨v, ws, rfl, _, q⟩ := h
    rw [List.length_cons, List.length_cons, RepK.lenX q]
theorem walks_itemsX {G : PenK} {K : PySem.W.Frag} {S : Addr → Prop} {H : Hp} {a : Addr} {o : Obj} {kvs : List (Key × D)} {kws : List (Key × V)} (hS : S a) (e : H a = some (.frz o (.dK kws))) (r : RepK K S H kvs kws) (hz : ∀ kv ∈ kvs, ∀ s, kv.1 = .inr s → s.length ≤ sizeLine) :
    Walks G K (Ixi a o kws) S H (itemsL kvs) := fun c ρ σ H2 n i g I => by
  have e2 : H2 a = some (.frz o (.dK kws)) := (g.eq a hS).trans e
  have r2 := RepK.grow g _ _ r
  have hl := RepK.lenX r2
  unfold itemsL
  rw [List.length_map]
  refine ⟨fun hi => ?_, fun hi => ⟨e2, by omega⟩⟩
  have hx : kvs[i]? = some kvs[i] := List.getElem?_eq_getElem hi
  obtain ⟨v, e3, r3⟩ := RepK.at r2 hx
  refine ⟨⟨e2, by omega⟩, fun u H' ⟨T, k, v', ob, e4, eu, hT, od, eH⟩ => ?_⟩
  rw [e3] at e4
  cases e4
  subst eu eH
  obtain ⟨IS, gS⟩ := I.laid (o := .frz ob (.tup [kV kvs[i].1, v])) hT
  have rk : Rep K (fun x => c.S x ∨ x = T) (upd H2 T (.frz ob (.tup [kV kvs[i].1, v]))) (keyV kvs[i].1) (kV kvs[i].1) := by
    have hzi := hz kvs[i] (List.getElem_mem hi)
    cases hk : kvs[i].1 with
    | inl j => exact rfl
    | inr s => exact ⟨rfl, hzi s hk⟩
  exact ⟨_, .tup [keyV kvs[i].1, kvs[i].2], gS, IS, by rw [List.getElem?_map, hx]; rfl, T, [kV kvs[i].1, v], rfl, .inl ⟨.inr rfl, ob, upd_same, od⟩, (by show 2 ≤ sizeLine; decide), _, _, rfl, rk, _, _, rfl, Rep.grow gS _ _ r3, rfl⟩
end PL

set_option maxHeartbeats 2000000
/-! [.. for p in d.items() ..] and sorted(d.items()). -/
namespace PL
open PySem PySem.Spec L2
/-- the pairs of a dict -/
def itemsXD (d : D) : W (List D) := bnd (dicW d) itemsW
section
variable {G : PenK} {X : Cx} {Wx : WX}
theorem o_lcI {elt : Expr} {nx x : Str} {npx px apos cpos : Pos} {ifs : List Expr} {scope : Scope} {own : List (Str × Nat)} {pos : Pos} {t : Tg} {gt : Env → W Bool} {ge : Env → W D} (i : Nat) (hc : X.calm = true) (hN : X.N.Nodup) (ok : BlkOk X.N X.env.scope scope own)
    (hg : ∀ (s : Shared) (H : Hp) (A : Addr) (cl : List (Str × Addr)) (fp : List Addr), PTg (X.blk s H scope (compEnvC scope cl A X.env) fp) (.Name nx npx) t) (ht : ∀ (s : Shared) (H : Hp) (A : Addr) (cl : List (Str × Addr)) (fp : List Addr), Ts G (X.blk s H scope (compEnvC scope cl A X.env) fp) ifs gt)
    (he : ∀ (s : Shared) (H : Hp) (A : Addr) (cl : List (Str × Addr)) (fp : List Addr), E G (X.blk s H scope (compEnvC scope cl A X.env) fp) WF elt ge) (hi : X.N[i]? = some x := by rfl) (hv : Vis X.env.scope x := by first | exact Or.inl rfl | exact Or.inr (Or.inl rfl) | exact Or.inr (Or.inr rfl)) (hd : (x == ("__debug__" : Str)) = false := by decide)
    (hcd : (x == ("__classdict__" : Str)) = false := by decide) (hix : ∀ i ∈ t.ix, i ∈ own.map (·.2) := by decide) (hbase : attributeBase (.Name x px) "items" X.env (eval (.Name x px) X.env) = eval (.Name x px) X.env := by rfl) (hline : (apos.endLine == cpos.line) = true := by rfl)
    (hs : ∀ y, foldedSetIterable (.Call (.Attribute (.Name x px) "items" apos) [] [] cpos) X.env y = pure y := by intro _; rfl) :
    EO G X Wx (.ListComp elt [⟨.Name nx npx, .Call (.Attribute (.Name x px) "items" apos) [] [] cpos, ifs, 0⟩] scope pos) (fun ρ => bnd (nm ρ i) fun d => bnd (itemsXD d) fun xs => few xs (grd (noOwn (own.map (·.2)) ρ = true) (quiet (compW t gt ge (wip (own.map (·.2)) ρ) xs)))) := by
  have base := pe_lc (g := gT X.K t) (tt := tT G X WF gt) (te := tE G X WF ge) hc hN (pi_itemsX (X := X) (nx := nx) (px := npx) (pe_var (pos := px) hi hv hd hcd) hbase hline) ok hg ht he (pos := pos) hs
  refine weakE (pe_or base (pe_lock base)) fun σ H Q ⟨c, ρ, n, P, PX, I, q, hgo, hx⟩ => ?_
  obtain ⟨d, e, q⟩ := nm_inv (show bnd (nm ρ i) (fun d => bnd (itemsXD d) fun xs => few xs (grd (noOwn (own.map (·.2)) ρ = true) (quiet (compW t gt ge (wip (own.map (·.2)) ρ) xs)))) n P PX from q)
  obtain ⟨v, e1, r⟩ := I.slots i _ e
  cases d with
  | dic kvs =>
    obtain ⟨a, kws, rfl, ⟨hS, rd⟩, rk⟩ := r
    obtain ⟨⟨z1, z2⟩, z3, hno, p⟩ := q
    rcases rd with hd1 | ⟨o, hd1⟩
    · refine .inr ⟨a, .dK kws, hd1, True.intro, fun od => ⟨.ref a, slot_some e1, a, od, kws, rfl, upd_same, ?_⟩⟩
      have I2 := I.lockD (o := od) hS hd1
      obtain ⟨l1, l2, l3, l4⟩ := lock_rd (o := od) hd1
      refine lc_body (Q := fun v H' => H' a = some (.frz od (.dK kws)) ∧ Q v (upd H' a (.dK kws))) (c := c.free a) (S' := c.S) (H := upd H a (.frz od (.dK kws))) hix (fun ys k b vs S' H' p g I' e z r f => ?_) z3 hno p .refl I2 (walks_itemsX hS upd_same (RepK.rd (fun a xs _ => l1 a xs) (fun a xs _ => l2 a xs) ⟨fun a xs _ => l3 a xs, fun a C dx fs _ => l4 a C dx fs⟩ _ _ rk) z2)
      obtain ⟨I3, g3, e3⟩ := I.unlockD hS hd1 g I'
      obtain ⟨m1, m2, m3, m4⟩ := unlock_rd e3
      have nb : b ≠ a := fun w => by rw [w, e3] at e; cases e
      refine ⟨e3, hgo ys k b vs S' _ p g3 I3 (by rw [upd_ne nb]; exact e) z (Reps.rd (fun a xs _ => m1 a xs) (fun a xs _ => m2 a xs) ⟨fun a xs _ => m3 a xs, fun a C dx fs _ => m4 a C dx fs⟩ _ _ r) ⟨⟨f.1.1, ?_⟩, f.2⟩⟩
      have := f.1.2
      rwa [show ((c.free a).to S').H0 b = c.H0 b from if_neg nb] at this
    · exact .inl ⟨.ref a, slot_some e1, a, o, kws, rfl, hd1, lc_body (c := c) (S' := c.S) (H := H) hix hgo z3 hno p .refl I (walks_itemsX hS hd1 rk z2)⟩
  | _ => exact False.elim q
/-- .. over the values that the target takes -/
theorem o_lcIQ {α : Type} {elt : Expr} {nx x : Str} {npx px apos cpos : Pos} {ifs : List Expr} {scope : Scope} {own : List (Str × Nat)} {pos : Pos} {t : Tg} {gt : Env → W Bool} {ge : Env → W D} {mu : D → W α} {ee : α → Env → Env} (i : Nat) (hsT : ∀ x ρ, setT t x ρ = bnd (mu x) fun a => ret (ee a ρ)) (hc : X.calm = true) (hN : X.N.Nodup) (ok : BlkOk X.N X.env.scope scope own)
    (hg : ∀ (s : Shared) (H : Hp) (A : Addr) (cl : List (Str × Addr)) (fp : List Addr), PTg (X.blk s H scope (compEnvC scope cl A X.env) fp) (.Name nx npx) t) (ht : ∀ (s : Shared) (H : Hp) (A : Addr) (cl : List (Str × Addr)) (fp : List Addr), Ts G (X.blk s H scope (compEnvC scope cl A X.env) fp) ifs gt)
    (he : ∀ (s : Shared) (H : Hp) (A : Addr) (cl : List (Str × Addr)) (fp : List Addr), E G (X.blk s H scope (compEnvC scope cl A X.env) fp) WF elt ge) (hi : X.N[i]? = some x := by rfl) (hv : Vis X.env.scope x := by first | exact Or.inl rfl | exact Or.inr (Or.inl rfl) | exact Or.inr (Or.inr rfl)) (hd : (x == ("__debug__" : Str)) = false := by decide)
    (hcd : (x == ("__classdict__" : Str)) = false := by decide) (hix : ∀ i ∈ t.ix, i ∈ own.map (·.2) := by decide) (hbase : attributeBase (.Name x px) "items" X.env (eval (.Name x px) X.env) = eval (.Name x px) X.env := by rfl) (hline : (apos.endLine == cpos.line) = true := by rfl)
    (hs : ∀ y, foldedSetIterable (.Call (.Attribute (.Name x px) "items" apos) [] [] cpos) X.env y = pure y := by intro _; rfl) :
    EO G X Wx (.ListComp elt [⟨.Name nx npx, .Call (.Attribute (.Name x px) "items" apos) [] [] cpos, ifs, 0⟩] scope pos) (fun ρ => bnd (bnd (nm ρ i) itemsXD) (compM mu ee (own.map (·.2)) gt ge ρ)) :=
  (o_lcI i hc hN ok hg ht he hi hv hd hcd hix hbase hline hs).eq (by
    funext ρ
    rw [bnd_bnd]
    congr 1
    funext d
    congr 1
    funext xs
    exact compM_eq (f := fun x => x) (tt := fun xs => xs) (fun _ => by simp) hsT _ _ _ _ _)
end
end PL
namespace PL
open PySem PySem.Spec PyProof.Rows L2 LiI
open SrtO hiding Str
section
variable {prog : Program} {w : World} {A : Around} {E : Value → Shared → Prop} {s : Shared}
theorem sorted_itemsZ {r d : Addr} {ep : Nat} {vs : List (Key × Value)} {ks : List (Str × Int)} {Q : Value → Shared → Prop} (hh : A.handled = none) (hv : s.heap.IsItemsView r d) (hm : s.heap.DictAt (mixKind prog w) d vs ep) (hn : vs.length ≤ sizeLine) (hl : ks.length = vs.length)
    (hks : ∀ (j : Nat) (k : Key) (v : Value), vs[j]? = some (k, v) → ∃ x y t, ks[j]? = some (x, y) ∧ k = .inr x ∧ v = .int y t)
    (h : ∀ (h' : Heap) (tk : Nat) (as : List Addr) (zs : List (Addr × (Str × Int))) (q : Addr) (c : Nat), (∀ b o, s.heap.get? b = some o → h'.get? b = some o) → as.length = vs.length → PySem.W.KdxG (mixKind prog w) vs s.heap.objs.size h' as → q ∉ as → s.heap.objs.size ≤ q →
      zs.Perm (as.zip ks) → ((zs.map (·.2)).Pairwise fun a b => lexS b a = false) → h'.get? q = some { cls := .type "list", dict := none, data := .seq (zs.map fun z => Value.ref z.1).toArray c, slots := #[] } → Q (.ref q) { s with heap := h', toks := tk }) :
    wpAny (model prog w) A (call (.builtin "sorted") [.ref r]) Q E s := by
  refine Calls.call_function_entry kind_sorted plain_sorted entry_sorted (args_sorted1 _) ?_
  unfold Builtin.«sorted»
  refine wpAny_bind (m := checkCount "sorted" 1 1 _) (wpAny_pure ?_)
  obtain ⟨es, hraw, hsz, hent⟩ := hm.raw
  refine wpAny_bind (_root_.DT.collectI (A := A.in1) (es := es) (ep := ep) hh hv hraw (by rw [hsz]; exact hn) fun h' tk as hk hlt has hM => ?_)
  rw [hsz] at has
  have hG : PySem.W.KdxG (mixKind prog w) vs s.heap.objs.size h' as := ⟨hM.rise, hM.above, fun j a hj => by
    obtain ⟨e, e1, e2⟩ := hM.pairs j a hj
    obtain ⟨hj2, e3⟩ := Array.getElem?_eq_some_iff.mp e1
    have hj3 : j < vs.length := by omega
    obtain ⟨f1, f2⟩ := hent j hj2 vs[j].1 vs[j].2 (List.getElem?_eq_getElem hj3)
    rw [e3] at f1 f2
    exact ⟨e.key, vs[j].1, vs[j].2, List.getElem?_eq_getElem hj3, f1, by rw [e2, f2]⟩⟩
  refine wpAny_bind (wpAny_newList ?_ (by rw [List.length_map, has]; exact hn))
  have hoL : (h'.push { cls := .type "list", data := .seq (as.map Value.ref).toArray }).get? h'.objs.size = some (seqObj "list" (as.map Value.ref).toArray 0) := Heap.get?_push_size _ rfl
  have ka : ∀ b o, h'.get? b = some o → b ≠ h'.objs.size ∧ (h'.push { cls := .type "list", data := .seq (as.map Value.ref).toArray }).get? b = some o := fun b o e => ⟨Nat.ne_of_lt (Heap.lt_size e), Heap.get?_push_of_some _ e⟩
  generalize hh2 : h'.push { cls := .type "list", data := .seq (as.map Value.ref).toArray } = h2 at hoL ka ⊢
  have pr : ∀ (j : Nat) (b : Addr), as[j]? = some b → ∃ x y t u, ks[j]? = some (x, y) ∧ h'.get? b = some { cls := .type "tuple", data := .seq #[.str x t, .int y u] } := by
    intro j b hj
    obtain ⟨key, k, v, e1, e2, e3⟩ := hG.pairs j b hj
    obtain ⟨x, y, u, f1, f2, f3⟩ := hks j k v e1
    have e2 : keyIs k key = true := e2
    rw [f2] at e2
    obtain ⟨t, et⟩ : ∃ t, key = .str x t := by
      rcases keyIs_shape e2 with ⟨i, t, z, _⟩ | ⟨x', t, z, e⟩
      · cases z
      · cases z
        exact ⟨t, e⟩
    exact ⟨x, y, t, u, f1, by rw [e3, et, f3]⟩
  have nq : h'.objs.size ∉ as := fun z => Nat.lt_irrefl _ (hG.there z)
  have lq : s.heap.objs.size ≤ h'.objs.size := Nat.le_of_lt hlt
  have hk1 : ∀ (j : Nat) (b : Addr), as[j]? = some b → IsSI h2 (.ref b) (kOf h2 (.ref b)).1 (kOf h2 (.ref b)).2 ∧ ks[j]? = some (kOf h2 (.ref b)) := by
    intro j b hj
    obtain ⟨x, y, t, u, e1, e2⟩ := pr j b hj
    have e3 := (ka b _ e2).2
    have e4 : kOf h2 (.ref b) = (x, y) := by
      simp only [kOf, e3]
    rw [e4]
    exact ⟨⟨b, _, t, u, 0, rfl, e3, rfl, rfl⟩, e1⟩
  have hsi : ∀ v ∈ as.map Value.ref, IsSI h2 v (kOf h2 v).1 (kOf h2 v).2 := fun v hv => by
    obtain ⟨b, hb, rfl⟩ := List.mem_map.mp hv
    obtain ⟨j, hj⟩ := List.mem_iff_getElem?.mp hb
    exact (hk1 j b hj).1
  have ez : as.zip ks = as.map fun p => (p, kOf h2 (.ref p)) := by
    apply List.ext_getElem?
    intro j
    rw [List.getElem?_map]
    cases hj : as[j]? with
    | none =>
      have : as.length ≤ j := List.getElem?_eq_none_iff.mp hj
      rw [List.getElem?_eq_none_iff.mpr (by rw [List.length_zip]; omega)]
      rfl
    | some b => exact List.getElem?_zip_eq_some.mpr ⟨hj, (hk1 j b hj).2⟩
  refine wpAny_bind (wpAny_holding (wpAny_call_entry slot_list_sort ⟨_, hoL, rfl⟩ entry_list_sort (list_sort_ord (s := { s with heap := h2, toks := tk }) (swo_lexS (kOf h2)) hoL (by rw [List.length_map, has]; exact hn) (fun h2' => si_sortable (s := { s with heap := h2, toks := tk }) (by omega) hsi fun o e => ?_) fun out hs hb => ⟨_, rfl, ?_⟩) (args_list_sort _)))
  · have e' : some o = some (seqObj "list" (as.map Value.ref).toArray 0) := e.symm.trans hoL
    cases e'
    intro c
    exact absurd (Value.type.inj c) (by decide)
  · refine wpAny_pure ?_
    have pm := hb.perm
    obtain ⟨qs, rfl⟩ : ∃ qs : List Addr, out = qs.map Value.ref := by
      have : ∀ l : List Value, (∀ v ∈ l, ∃ a, v = Value.ref a) → ∃ qs : List Addr, l = qs.map Value.ref := fun l => by
        induction l with
        | nil => exact fun _ => ⟨[], rfl⟩
        | cons v l ih =>
          intro h
          obtain ⟨b, rfl⟩ := h v List.mem_cons_self
          obtain ⟨qs, rfl⟩ := ih fun v hv => h v (List.mem_cons_of_mem _ hv)
          exact ⟨b :: qs, rfl⟩
      refine this out fun v hv => ?_
      obtain ⟨b, _, e⟩ := List.mem_map.mp (pm.mem_iff.mp hv)
      exact ⟨b, e.symm⟩
    have pq : qs.Perm as := by
      have z := pm.map fun v : Value => match v with | .ref a => a | _ => 0
      rw [List.map_map, List.map_map] at z
      have e1 : ∀ l : List Addr, l.map ((fun v : Value => match v with | .ref a => a | _ => 0) ∘ Value.ref) = l := fun l => List.map_id l
      rw [e1, e1] at z
      exact z
    have kS : ∀ b o, h'.get? b = some o → (sortedHeap h2 h'.objs.size (as.map Value.ref) (qs.map Value.ref).toArray).get? b = some o := fun b o e => (PyProof.Rows.sortedHeap_old (ka b o e).1 (Heap.lt_size (ka b o e).2)).trans (ka b o e).2
    obtain ⟨eF, heF⟩ := PyProof.Rows.sortedHeap_at (vs := as.map Value.ref) (out := (qs.map Value.ref).toArray) hoL
    refine ⟨_, rfl, h _ tk as (qs.map fun p => (p, kOf h2 (.ref p))) h'.objs.size eF (fun b o e => kS b o (hk b o e)) has ⟨hG.rise, hG.above, fun j a hj => ?_⟩ nq lq (by rw [ez]; exact pq.map _) (by
      rw [List.map_map]
      exact List.pairwise_map.mpr (List.pairwise_map.mp hs)) (by rw [List.map_map]; exact heF)⟩
    obtain ⟨key, k, x, e1, e2, e3⟩ := hG.pairs j a hj
    exact ⟨key, k, x, e1, e2, kS _ _ e3⟩
end
end PL
namespace PL
open PySem PySem.Spec PyProof.Rows L2 LiI
def rSortItems : V → Hp → VK → Prop := fun x H Q => ∃ (d : Addr) (kvs : List (Key × V)) (ks : List (Str × Int)), x = .ref d ∧ Rd H d (.dK kvs) ∧ kvs = ks.map (fun p => ((.inr p.1 : Key), V.int p.2)) ∧
  ∀ (H' : Hp) (p : Addr) (zs : List (Addr × (Str × Int))), (∀ b o, H b = some o → H' b = some o) → H p = none → (∀ z ∈ zs, H z.1 = none) → p ∉ zs.map (·.1) → H' p = some (.lst (zs.map fun z => V.ref z.1)) → zs.map (·.2) = sortSI ks →
    (∀ z ∈ zs, ∃ o : Obj, o.dict = none ∧ H' z.1 = some (.frz o (.tup [.str z.2.1, .int z.2.2]))) → Q (.ref p) H'
def tSortItems (te : TE) : TE := fun σ H Q => te σ H fun x H1 => rSortItems x H1 Q
section
variable {X : Cx} {e : Expr} {te : TE} {p apos cpos pos : Pos}
theorem items_laidY {pins : List (Addr × Obj)} {σ : L2.St} {H : Hp} {s : Shared} {h' : Heap} {tk : Nat} {kvs : List (Key × V)} {vs : List (Key × Value)} {c : Nat} {as ls : List Addr} {q : Addr} (I : Inv X pins σ H s) (kv : L2.KV kvs vs)
    (hk : ∀ b o, s.heap.get? b = some o → h'.get? b = some o) (nq : q ∉ as) (lq : s.heap.objs.size ≤ q) (hls : ls.length ≤ sizeLine) (hS : h'.get? q = some { cls := .type "list", dict := none, data := .seq (ls.map Value.ref).toArray c, slots := #[] }) (hl : as.length = vs.length) (hG : PySem.W.KdxG (mixKind X.prog X.w) vs s.heap.objs.size h' as) :
    ∃ H' : Hp, (∀ b o, H b = some o → H' b = some o) ∧ H q = none ∧ (∀ t ∈ as, H t = none) ∧ H' q = some (.lst (ls.map V.ref)) ∧ Paired (fun (t : Addr) (z : Key × V) => H' t = some (.frz (oat h' t) (.tup [kV z.1, z.2]))) as kvs ∧ Inv X pins σ H' { s with heap := h', toks := tk } := by
  have lk : kvs.length = vs.length := Paired.length kv
  have nd : as.Nodup := List.Pairwise.imp (fun {a b} (h : a < b) => Nat.ne_of_lt h) hG.rise
  have new : ∀ t ∈ as, H t = none := fun t ht => I.hok.fresh (Nat.le_of_lt (hG.above t ht))
  have newS : H q = none := I.hok.fresh lq
  have atP := putZ_at (hh := h') as kvs (upd H q (.lst (ls.map V.ref))) (by omega) nd
  have off : ∀ b, b ∉ as → b ≠ q → putZ h' (upd H q (.lst (ls.map V.ref))) as kvs b = H b := fun b h1 h2 => by rw [putZ_off as kvs _ h1, upd_ne h2]
  have low : ∀ b o, s.heap.get? b = some o → b ∉ as ∧ b ≠ q := fun b o e => ⟨fun z => absurd (Heap.lt_size e) (Nat.not_lt.mpr (Nat.le_of_lt (hG.above b z))), Nat.ne_of_lt (Nat.lt_of_lt_of_le (Heap.lt_size e) lq)⟩
  have kp : ∀ b u, H b = some u → (putZ h' (upd H q (.lst (ls.map V.ref))) as kvs) b = some u := fun b u e => by
    rw [off b (fun z => by rw [new b z] at e; cases e) (fun z => by rw [z, newS] at e; cases e)]
    exact e
  have eS : putZ h' (upd H q (.lst (ls.map V.ref))) as kvs q = some (.lst (ls.map V.ref)) := by rw [putZ_off as kvs _ nq, upd_same]
  refine ⟨putZ h' (upd H q (.lst (ls.map V.ref))) as kvs, kp, newS, new, eS, atP, ?_⟩
  refine I.call' (ch := []) rfl ⟨fun b o y _ _ _ => hk b o y, fun b o y _ _ _ => ⟨o.slots, hk b o y⟩, fun b o y n _ => ?_, fun b o y _ => ⟨o, hk b o y⟩, fun b xs y => kp b _ y, fun b o u y => kp b _ y, fun b ps y => ⟨#[], by rw [kp b _ y]; simp⟩⟩ (fun b u y => ?_) I.bare fun b z => by simp at z
  · obtain ⟨z1, z2⟩ := low b o y
    rw [off b z1 z2]
    exact n
  · by_cases hb : b ∈ as
    · obtain ⟨j, pk, e1, e2, e3⟩ := paired_ix atP hb
      rw [e3] at y
      cases y
      obtain ⟨key, k, x, f1, f2, f3⟩ := hG.pairs j b e1
      obtain ⟨qv, g1, g2, g3⟩ := LiI.paired_get kv e2
      rw [f1] at g1
      cases g1
      have rk : RelV (kV pk.1) key := by
        rw [g2]
        exact relV_key (show keyIs k key = true from f2)
      exact ⟨by unfold oat; rw [f3]; rfl, by show 2 ≤ sizeLine; decide, [key, x], .cons rk (.cons g3 .nil), ⟨_, f3, rfl, _, rfl⟩⟩
    · by_cases hb2 : b = q
      · rw [hb2] at y ⊢
        rw [eS] at y
        cases y
        exact ⟨by rw [List.length_map]; exact hls, ls.map Value.ref, c, LiI.vals_refs ls, hS⟩
      · rw [off b hb hb2] at y
        exact (I.hok b u y).stay (fun d v _ y => hk d v y) (fun d y => kp d _ y) fun d xs y => kp d _ y
theorem kv_si {kvs : List (Key × V)} {vs : List (Key × Value)} {ks : List (Str × Int)} (kv : L2.KV kvs vs) (e : kvs = ks.map (fun p => ((.inr p.1 : Key), V.int p.2))) : ks.length = vs.length ∧ ∀ (j : Nat) (k : Key) (v : Value), vs[j]? = some (k, v) → ∃ x y t, ks[j]? = some (x, y) ∧ k = .inr x ∧ v = .int y t := by
  subst e
  have hl : (ks.map (fun p => ((.inr p.1 : Key), V.int p.2))).length = vs.length := Paired.length kv
  rw [List.length_map] at hl
  refine ⟨hl, fun j k v hj => ?_⟩
  have hlt : j < vs.length := (List.getElem?_eq_some_iff.mp hj).1
  have hkj : ks[j]? = some ks[j] := List.getElem?_eq_getElem (by omega)
  obtain ⟨qv, g1, g2, g3⟩ := LiI.paired_get kv (i := j) (x := ((.inr ks[j].1 : Key), V.int ks[j].2)) (by rw [List.getElem?_map, hkj]; rfl)
  rw [hj] at g1
  cases g1
  obtain ⟨t, et⟩ := g3
  exact ⟨ks[j].1, ks[j].2, t, hkj, g2.symm, et⟩
theorem pe_sortItemsZ (hc : X.calm = true) (he : PE X e te) (hg : Gl X "sorted") (hm : X.mg "sorted" = none) (hbase : attributeBase e "items" X.env (eval e X.env) = eval e X.env := by rfl) (hline : (apos.endLine == cpos.line) = true := by rfl)
    (hs : starEach [.Call (.Attribute e "items" apos) [] [] cpos] X.env = (false, eval (.Call (.Attribute e "items" apos) [] [] cpos) X.env) :: starEach [] X.env := by rfl) :
    PE X (.Call (.Name "sorted" p) [.Call (.Attribute e "items" apos) [] [] cpos] [] pos) (tSortItems te) := by
  refine ⟨fun pins s σ H Q I hq => ?_⟩
  refine wpAny_Call_Name_kw (ld_blt I hg hm boot_sorted ?_)
  refine PyProof.Rows.callWith_builtin1 ?_ hs rfl
  rw [hs]
  show wpAny _ _ (spliced ((false, eval (.Call (.Attribute e "items" apos) [] [] cpos) X.env) :: backTo pos (starEach [] X.env))) _ _ s
  refine Calls.spliced_cons ?_
  refine wpAny_Call_method (T := "dict") (id := "dict.items") hbase rfl hline F.plainAttrs_dict F.slot_dict_items F.type_dict_items (thn (he.run pins s σ H _ I hq) fun u s1 ⟨x, H1, I1, rx, d, kvs, ks, ex, hd, eks, q⟩ => ?_)
  subst ex
  obtain rfl : u = Value.ref d := rx
  obtain ⟨hz, hs0, vs, kv, hdo⟩ := dk_rd I1.hok hd
  obtain ⟨ep, hat⟩ := hdo.dictAt
  have lk : kvs.length = vs.length := Paired.length kv
  have I2 : Inv X pins σ H1 { s1 with heap := s1.heap.push { cls := .type "dict_items", data := .fields #[.ref d] } } := I1.kept (t' := s1.toks) fun b ob q => Heap.get?_push_of_some _ q
  refine ⟨hdo.typeIs, hdo.mapOf.noDict, ?_⟩
  show wpAny _ _ (callWith cpos (.builtin "dict.items") [.ref d] [] []) _ X.xe s1
  refine method_meetsIn F.slot_dict_items F.entry_dict_items rfl (PySem.evalArgs_none ⟨rfl, hdo.typeIs, F.args_dict_items_1 _, _, meets_dict_items (mixKind X.prog X.w) d hs0, ⟨vs, hdo⟩, ?_⟩)
  refine Calls.spliced_nil ?_
  obtain ⟨hkl, hks⟩ := kv_si kv eks
  refine sorted_itemsZ (vs := vs) (ks := ks) (ep := ep) (I1.ok.hd hc) ⟨_, Heap.get?_push_size _ rfl, rfl, rfl⟩ (hat.push _) (by omega) hkl hks fun h' tk as zs qa c hk hl hG nq lq pz so hS => ?_
  have hzl : zs.length ≤ sizeLine := by
    have := pz.length_eq
    rw [List.length_zip] at this
    omega
  have e1 : (zs.map fun z => Value.ref z.1) = (zs.map (·.1)).map Value.ref := by rw [List.map_map]; rfl
  rw [e1] at hS
  obtain ⟨H', k1, k2, k3, k5, k6, J⟩ := items_laidY (tk := tk) I2 kv hk nq lq (by rw [List.length_map]; exact hzl) hS hl hG
  have mem : ∀ z ∈ zs, ∃ j : Nat, as[j]? = some z.1 ∧ ks[j]? = some z.2 := fun z hz => by
    obtain ⟨j, hj⟩ := List.mem_iff_getElem?.mp (pz.mem_iff.mp hz)
    exact ⟨j, List.getElem?_zip_eq_some.mp hj⟩
  refine ⟨.ref _, H', J, rfl, q H' qa zs k1 k2 (fun z hz => ?_) (fun hm => ?_) (by rw [k5, List.map_map]; rfl) ?_ fun z hz => ?_⟩
  · obtain ⟨j, j1, _⟩ := mem z hz
    exact k3 _ (List.mem_of_getElem? j1)
  · obtain ⟨z, hz, ez⟩ := List.mem_map.mp hm
    obtain ⟨j, j1, _⟩ := mem z hz
    rw [ez] at j1
    exact nq (List.mem_of_getElem? j1)
  · refine (sortSI_uniq ?_ (so.imp fun {a b} h => by unfold lexLe; rw [h]; rfl)).symm
    have := pz.map (·.2)
    rwa [List.map_snd_zip (by omega)] at this
  · obtain ⟨j, j1, j2⟩ := mem z hz
    obtain ⟨i, pk, i1, i2, i3⟩ := paired_ix k6 (List.mem_of_getElem? j1)
    have nd : as.Nodup := List.Pairwise.imp (fun {a b} (h : a < b) => Nat.ne_of_lt h) hG.rise
    have eij : i = j := (List.getElem?_inj (List.getElem?_eq_some_iff.mp i1).1 nd).mp (i1.trans j1.symm)
    subst eij
    rw [eks, List.getElem?_map, j2] at i2
    cases i2
    obtain ⟨key, k, x, f1, f2, f3⟩ := hG.pairs i z.1 j1
    exact ⟨oat h' z.1, by unfold oat; rw [f3]; rfl, i3⟩
end
end PL
namespace PL
open PySem PySem.Spec L2
theorem repK_si {K : PySem.W.Frag} {S : Addr → Prop} {H : Hp} : ∀ {kvs : List (Key × D)} {kws : List (Key × V)} {l : List (Str × Int)}, RepK K S H kvs kws → itemsL kvs = l.map siD → (∀ kv ∈ kvs, ∀ s, kv.1 = .inr s → s.length ≤ sizeLine) → kws = l.map (fun p => ((.inr p.1 : Key), V.int p.2)) ∧ ∀ p ∈ l, p.1.length ≤ sizeLine
  | [], _, [], h, _, _ => by
    have e : _ = [] := h
    rw [e]
    exact ⟨rfl, fun _ h => nomatch h⟩
  | [], _, _ :: _, _, e, _ => nomatch e
  | _ :: _, _, [], _, e, _ => nomatch e
  | (k, x) :: kvs, _, (a, b) :: l, h, e, hz => by
    obtain ⟨v, ws, rfl, r, q⟩ := h
    have e : D.tup [keyV k, x] :: itemsL kvs = siD (a, b) :: l.map siD := e
    obtain ⟨e1, e2⟩ := List.cons.inj e
    have e1 := D.tup.inj e1
    obtain ⟨f1, f2⟩ := List.cons.inj e1
    obtain ⟨f2, _⟩ := List.cons.inj f2
    subst f2
    cases k with
    | inl i => cases f1
    | inr s =>
      cases f1
      have ev : v = V.int b := r
      subst ev
      obtain ⟨g1, g2⟩ := repK_si q e2 fun kv hk => hz kv (List.mem_cons_of_mem _ hk)
      exact ⟨by rw [g1]; rfl, fun p hp => (List.mem_cons.mp hp).elim (fun ep => by rw [ep]; exact hz _ List.mem_cons_self _ rfl) (g2 p)⟩
section
variable {G : PenK} {X : Cx} {Wx : WX}
theorem o_sortItems {e : Expr} {p apos cpos pos : Pos} {g : Env → W D} (hc : X.calm = true) (hm : X.mg "sorted" = none) (h : E G X Wx e g) (hg : Gl X "sorted" := by rfl) (hbase : attributeBase e "items" X.env (eval e X.env) = eval e X.env := by rfl) (hline : (apos.endLine == cpos.line) = true := by rfl)
    (hs : starEach [.Call (.Attribute e "items" apos) [] [] cpos] X.env = (false, eval (.Call (.Attribute e "items" apos) [] [] cpos) X.env) :: starEach [] X.env := by rfl) :
    EO G X Wx (.Call (.Name "sorted" p) [.Call (.Attribute e "items" apos) [] [] cpos] [] pos) (fun ρ => bnd (g ρ) fun x => bnd (itemsXD x) fun l => sortGW (.lst l)) :=
  weakE (pe_sortItemsZ hc h hg hm hbase hline hs) fun σ H Q ⟨c, ρ, n, P, PX, I, q, hgo, hx⟩ => tE.bnd I q hx fun d k u S' H1 p g I' hx' r => by
    cases d with
    | dic kvs =>
      obtain ⟨a, kws, rfl, ⟨_, rd⟩, rk⟩ := r
      obtain ⟨⟨z1, z2⟩, p⟩ := p
      obtain ⟨l, el, q2⟩ := optW_inv (show optW (siL (itemsL kvs)) k (fun l k' => (ret ((sortSI l).map siD)) k' P PX) PX from p)
      obtain ⟨ek, hz⟩ := repK_si rk (siL_map el) z2
      refine ⟨a, kws, l, rfl, rd, ek, fun H2 b zs k1 k2 k3 k4 k5 k6 k7 => ?_⟩
      have mz : ∀ t ∈ zs.map (·.1), ∃ z ∈ zs, z.1 = t := fun t ht => List.mem_map.mp ht
      obtain ⟨I2, g2⟩ := I'.ext k1 (fun a => a ∈ zs.map (·.1)) fun t ht => by
        obtain ⟨z, hz, rfl⟩ := mz t ht
        obtain ⟨o, _, e⟩ := k7 z hz
        exact ⟨k3 z hz, by rw [e]; exact fun z => nomatch z⟩
      have hzs : ∀ z ∈ zs, z.2.1.length ≤ sizeLine := fun z hm => hz z.2 ((sortSI_perm l).mem_iff.mp (by rw [← k6]; exact List.mem_map.mpr ⟨z, hm, rfl⟩))
      have hl : (sortSI l).length ≤ sizeLine := by
        rw [(sortSI_perm l).length_eq]
        have := congrArg List.length (siL_map el)
        unfold itemsL at this
        rw [List.length_map, List.length_map] at this
        omega
      refine hgo _ k b _ _ H2 q2 (g.trans g2) I2 k5 (by rw [List.length_map]; exact hl) ?_ ⟨⟨fun z => z.elim (fun z => I'.dom b z k2) k4, I'.freeOld k2, I'.freeM k2⟩, fun i sv e ho es => I'.own_there ⟨i, sv, e, ho, es⟩ k2⟩
      rw [← k6]
      refine reps_zs fun z hm => ?_
      obtain ⟨o, od, e⟩ := k7 z hm
      exact ⟨z.1, [.str z.2.1, .int z.2.2], rfl, .inl ⟨.inr (List.mem_map.mpr ⟨z, hm, rfl⟩), o, e, od⟩, (by show 2 ≤ sizeLine; rw [sizeLine_eq]; decide), _, _, rfl, ⟨rfl, hzs z hm⟩, _, _, rfl, rfl, rfl⟩
    | _ => exact False.elim p
end
end PL

/-! a, b, c = x, y, z with local names: no triple is made. -/
namespace PL
open PySem PySem.Spec L2
def unpL3 : List D → W (D × D × D)
  | [a, b, c] => ret (a, b, c)
  | _ => stuck
section
variable {G : PenK} {X : Cx} {Wx : WX} {γ : Type} {En : Enz γ} {ρ : Env} {rest : List Stmt} {m : W γ}
theorem s_par3 {x y z : Str} {a b c : Expr} {px py pz pt pos : Pos} {kt : Nat} {k2 : Nat} {pt2 : Pos} {gs : Env → W (List D)} (i j l : Nat) (hc : X.calm = true) (hN : X.N.Nodup) (h : A G X Wx [a, b, c] gs) (hi : X.N[i]? = some x) (hj : X.N[j]? = some y) (hl : X.N[l]? = some z) (hij : i ≠ j) (hil : i ≠ l) (hjl : j ≠ l)
    (hx : X.env.scope.names.lookup x = some .local) (hy : X.env.scope.names.lookup y = some .local) (hz : X.env.scope.names.lookup z = some .local)
    (hw : swappedStores [.Tuple [.Name x px, .Name y py, .Name z pz] kt pt] (.Tuple [a, b, c] k2 pt2) X.env = pure (some [x, y, z])) (hs : swapsWithSole [.Tuple [.Name x px, .Name y py, .Name z pz] kt pt] (.Tuple [a, b, c] k2 pt2) pos.line X.env = pure false) :
    St1 G X Wx (.Assign [.Tuple [.Name x px, .Name y py, .Name z pz] kt pt] (.Tuple [a, b, c] k2 pt2) pos) (fun ρ => bnd (bnd (gs ρ) unpL3) fun p => ret (.nx (((ρ.set i (.d p.1)).set j (.d p.2.1)).set l (.d p.2.2)))) :=
  weakS (ps_par3 hc hN hi hj hl hij hil hjl hx hy hz h hw hs) fun Dn σ H ⟨c, ρ, n, P, PX, I, q, hg, hx⟩ => tAr.bnd (α := Out) (P := P) (f := fun ds => bnd (unpL3 ds) fun p => ret (Out.nx (((ρ.set i (.d p.1)).set j (.d p.2.1)).set l (.d p.2.2)))) I q hx.x fun ds k vs S' H' p g I' hx' r => by
    match ds, r, p with
    | [d1, d2, d3], r, p =>
      obtain ⟨u, ws, rfl, r1, r'⟩ := r
      obtain ⟨v, w, rfl, r2, r3⟩ := Reps.two_inv r'
      exact ⟨u, v, w, rfl, hg.1 _ k _ S' H' p g (((I'.set (i := i) r1).set (i := j) r2).set (i := l) r3)⟩
    | [], _, p => exact False.elim p
    | [_], _, p => exact False.elim p
    | [_, _], _, p => exact False.elim p
    | _ :: _ :: _ :: _ :: _, _, p => exact False.elim p
theorem sg_par3 {x y z : Str} {a b c : Expr} {px py pz pt pos : Pos} {kt : Nat} {k2 : Nat} {pt2 : Pos} {gs : Env → W (List D)} {α : Type} {m0 : W α} {f1 f2 f3 : α → D} {k : α → W γ} {ρ' : α → Env} (i j l L : Nat) (h : A G X Wx [a, b, c] gs) (hc : X.calm = true) (hN : X.N.Nodup) (hg : bnd (gs ρ) unpL3 = bnd m0 fun a => ret (f1 a, f2 a, f3 a)) (inj : ∀ a b, f1 a = f1 b → f2 a = f2 b → f3 a = f3 b → a = b) (hL : ρ.length = L) (hi : i < L) (hj : j < L) (hl : l < L) (hij : j ≠ i) (hil : l ≠ i) (hjl : l ≠ j) (hρ : ∀ a, ((ρ.set i (.d (f1 a))).set j (.d (f2 a))).set l (.d (f3 a)) = ρ' a) (hr : ∀ a, SG G X Wx rest (ρ' a) En (k a))
    (hi2 : X.N[i]? = some x := by rfl) (hj2 : X.N[j]? = some y := by rfl) (hl2 : X.N[l]? = some z := by rfl) (hx : X.env.scope.names.lookup x = some .local := by rfl) (hy : X.env.scope.names.lookup y = some .local := by rfl) (hz : X.env.scope.names.lookup z = some .local := by rfl)
    (hw : swappedStores [.Tuple [.Name x px, .Name y py, .Name z pz] kt pt] (.Tuple [a, b, c] k2 pt2) X.env = pure (some [x, y, z]) := by rfl) (hs : swapsWithSole [.Tuple [.Name x px, .Name y py, .Name z pz] kt pt] (.Tuple [a, b, c] k2 pt2) pos.line X.env = pure false := by rfl) :
    SG G X Wx (.Assign [.Tuple [.Name x px, .Name y py, .Name z pz] kt pt] (.Tuple [a, b, c] k2 pt2) pos :: rest) ρ En (bnd m0 k) :=
  sg_stmt (e := fun a => ((ρ.set i (.d (f1 a))).set j (.d (f2 a))).set l (.d (f3 a))) (s_par3 i j l hc hN h hi2 hj2 hl2 (Ne.symm hij) (Ne.symm hil) (Ne.symm hjl) hx hy hz hw hs) (by
    rw [hg, bnd_bnd]
    rfl) (fun a b hab => by
    have q := congrArg (·[l]?) hab
    simp only [List.getElem?_set_self (show l < ((ρ.set i (SV.d (f1 a))).set j (SV.d (f2 a))).length by simp [hL, hl]), List.getElem?_set_self (show l < ((ρ.set i (SV.d (f1 b))).set j (SV.d (f2 b))).length by simp [hL, hl])] at q
    have q1 := congrArg (·[j]?) hab
    simp only [List.getElem?_set_ne hjl, List.getElem?_set_self (show j < (ρ.set i (SV.d (f1 a))).length by simp [hL, hj]), List.getElem?_set_self (show j < (ρ.set i (SV.d (f1 b))).length by simp [hL, hj])] at q1
    have q2 := congrArg (·[i]?) hab
    simp only [List.getElem?_set_ne hil, List.getElem?_set_ne hij, List.getElem?_set_self (show i < ρ.length by rw [hL]; exact hi)] at q2
    exact inj a b (SV.d.inj (Option.some.inj q2)) (SV.d.inj (Option.some.inj q1)) (SV.d.inj (Option.some.inj q))) fun a => by rw [hρ]; exact hr a
end
end PL

/-! Dicts laid over one another, as plain data. -/
namespace PL
open PySem PySem.Spec L2
def KF (ss : List Str) (f : Str → D) : List (Key × D) := ss.map fun s => (.inr s, f s)
def PF (ss : List Str) (f : Str → D) : List D := ss.map fun s => .tup [.str s, f s]
theorem pairsL_PF (ss : List Str) (f : Str → D) : pairsL (PF ss f) = some (KF ss f) := by
  induction ss with
  | nil => rfl
  | cons s ss ih =>
    show (match keyD (.str s), pairsL (PF ss f) with | some kk, some l => some ((kk, f s) :: l) | _, _ => none) = _
    rw [ih]
    rfl
theorem mergeD_new : ∀ (more acc : List (Key × D)), ((acc ++ more).map (·.1)).Nodup → mergeD acc more = acc ++ more
  | [], acc, _ => (List.append_nil _).symm
  | (k, x) :: r, acc, h => by
    show mergeD (putD acc k x) r = _
    have hk : k ∉ acc.map (·.1) := by
      rw [List.map_append, List.map_cons, List.nodup_append] at h
      exact fun z => h.2.2 k z k List.mem_cons_self rfl
    rw [putD_not hk, mergeD_new r (acc ++ [(k, x)]) (by simpa using h)]
    simp
theorem KF_keys (ss : List Str) (f : Str → D) : (KF ss f).map (·.1) = ss.map .inr := by
  unfold KF
  rw [List.map_map]
  rfl
theorem KF_nodup {ss : List Str} {f : Str → D} (h : ss.Nodup) : ((KF ss f).map (·.1)).Nodup := by
  rw [KF_keys]
  exact List.pairwise_map.mpr (h.imp fun h e => h (Sum.inr.inj e))
theorem dictW_PF {ss : List Str} {f : Str → D} (h : ss.Nodup) : dictW (.tup (PF ss f)) = ret (KF ss f) := by
  show bnd (optW (pairsL (PF ss f))) _ = _
  rw [pairsL_PF]
  show bnd (ret (KF ss f)) _ = _
  rw [bnd_ret, mergeD_new _ [] (by simpa using KF_nodup h)]
  rfl
theorem valD_cons (a : Key) (y : D) (r : List (Key × D)) (k : Key) : valD ((a, y) :: r) k = if a = k then some y else valD r k := by
  unfold valD
  rw [List.find?_cons]
  by_cases h : a = k <;> simp [h]
theorem valD_none {j : List (Key × D)} {k : Key} (h : k ∉ j.map (·.1)) : valD j k = none := by
  induction j with
  | nil => rfl
  | cons p r ih =>
    obtain ⟨a, y⟩ := p
    rw [List.map_cons, List.mem_cons, not_or] at h
    rw [valD_cons, if_neg fun e => h.1 e.symm, ih h.2]
theorem valD_mem {j : List (Key × D)} {k : Key} (h : k ∈ j.map (·.1)) : ∃ x, valD j k = some x := by
  induction j with
  | nil => cases h
  | cons p r ih =>
    obtain ⟨a, y⟩ := p
    rw [valD_cons]
    by_cases e : a = k
    · exact ⟨y, if_pos e⟩
    · rw [if_neg e]
      exact ih ((List.mem_cons.mp h).resolve_left fun z => e z.symm)
theorem valD_set (k : Key) (x : D) : ∀ (j : List (Key × D)) (k' : Key), valD (setK1 k x j) k' = if k' = k then (valD j k).map fun _ => x else valD j k'
  | [], k' => by
    show none = _
    split <;> rfl
  | (a, y) :: r, k' => by
    have ih := valD_set k x r k'
    unfold setK1
    by_cases h : a = k
    · subst h
      rw [if_pos rfl, valD_cons, valD_cons, valD_cons, ih, if_pos rfl]
      by_cases e : k' = a
      · subst e
        rw [if_pos rfl, if_pos rfl]
        rfl
      · rw [if_neg fun z => e z.symm, if_neg e, if_neg e, if_neg fun z => e z.symm]
    · rw [if_neg h, valD_cons, valD_cons, valD_cons, ih, if_neg h]
      by_cases e : a = k'
      · rw [if_pos e, if_pos e, if_neg fun z => h (e.trans z)]
      · rw [if_neg e, if_neg e]
theorem valD_snoc {j : List (Key × D)} {k : Key} {x : D} (h : k ∉ j.map (·.1)) (k' : Key) : valD (j ++ [(k, x)]) k' = if k' = k then some x else valD j k' := by
  induction j with
  | nil =>
    rw [List.nil_append, valD_cons]
    by_cases e : k' = k
    · rw [if_pos e, if_pos e.symm]
    · rw [if_neg e, if_neg fun z => e z.symm]
  | cons p r ih =>
    obtain ⟨a, y⟩ := p
    rw [List.map_cons, List.mem_cons, not_or] at h
    rw [List.cons_append, valD_cons, valD_cons, ih h.2]
    by_cases e : a = k'
    · rw [if_pos e, if_pos e, if_neg fun z => h.1 (e.trans z).symm]
    · rw [if_neg e, if_neg e]
theorem valD_put (j : List (Key × D)) (k : Key) (x : D) (k' : Key) : valD (putD j k x) k' = if k' = k then some x else valD j k' := by
  by_cases h : k ∈ j.map (·.1)
  · rw [putD_has h, valD_set]
    obtain ⟨y, e⟩ := valD_mem h
    rw [e]
    rfl
  · rw [putD_not h, valD_snoc h]
theorem valD_merge : ∀ (b a : List (Key × D)) (k : Key), (b.map (·.1)).Nodup → valD (mergeD a b) k = (valD b k).or (valD a k)
  | [], a, k, _ => rfl
  | (k0, x) :: r, a, k, h => by
    rw [List.map_cons, List.nodup_cons] at h
    show valD (mergeD (putD a k0 x) r) k = _
    rw [valD_merge r _ k h.2, valD_put, valD_cons]
    by_cases e : k = k0
    · subst e
      rw [valD_none h.1, if_pos rfl, if_pos rfl]
      rfl
    · rw [if_neg e, if_neg fun z => e z.symm]
theorem DI.merge {v : D → Bool} : ∀ {b a : List (Key × D)}, DI v a → (∀ kv ∈ b, ∃ s, kv.1 = .inr s ∧ wordB (.str s) = true ∧ v kv.2 = true) → DI v (mergeD a b) ∧ (mergeD a b).length ≤ a.length + b.length
  | [], a, h, _ => ⟨h, Nat.le_refl _⟩
  | (k, x) :: r, a, h, hb => by
    obtain ⟨s, e, hs, hx⟩ := hb (k, x) List.mem_cons_self
    have e : k = .inr s := e
    subst e
    obtain ⟨h1, h2⟩ := DI.merge (a := putD a (.inr s) x) (h.put hs hx) fun kv hk => hb kv (List.mem_cons_of_mem _ hk)
    refine ⟨h1, Nat.le_trans h2 ?_⟩
    have := putD_len a (.inr s) x
    rw [List.length_cons]
    omega
theorem valD_KF (ss : List Str) (f : Str → D) (s : Str) : valD (KF ss f) (.inr s) = if s ∈ ss then some (f s) else none := by
  induction ss with
  | nil => rfl
  | cons a r ih =>
    show valD ((.inr a, f a) :: KF r f) _ = _
    rw [valD_cons, ih]
    by_cases e : a = s
    · subst e
      simp
    · rw [if_neg fun z => e (Sum.inr.inj z)]
      have e' : ¬ s = a := fun z => e z.symm
      simp [List.mem_cons, e']
theorem keysS_KF (ss : List Str) (f : Str → D) : keysS (KF ss f) = ss := by
  unfold keysS KF
  rw [List.map_map]
  exact List.map_id _
theorem DI.kf {v : D → Bool} {ss : List Str} {f : Str → D} (h : ss.Nodup) (hs : ∀ s ∈ ss, wordB (.str s) = true ∧ v (f s) = true) : DI v (KF ss f) :=
  ⟨fun kv hk => by
    obtain ⟨s, h1, rfl⟩ := List.mem_map.mp hk
    exact ⟨s, rfl, hs s h1⟩, KF_nodup h⟩
theorem mem_keysS {v : D → Bool} {j : List (Key × D)} (h : DI v j) (s : Str) : s ∈ keysS j ↔ (valD j (.inr s)).isSome = true := by
  constructor
  · intro hs
    obtain ⟨x, e, _⟩ := valD_some h hs
    rw [e]
    rfl
  · intro hs
    refine Classical.byContradiction fun q => ?_
    have : Sum.inr s ∉ j.map (·.1) := fun z => by
      obtain ⟨kv, hk, e⟩ := List.mem_map.mp z
      exact q (List.mem_map.mpr ⟨kv, hk, by rw [e]; rfl⟩)
    rw [valD_none this] at hs
    cases hs
theorem sortT_congr {a b : List Str} (h : a.Perm b) : sortT a = sortT b :=
  ((sortT_perm a).trans (h.trans (sortT_perm b).symm)).eq_of_pairwise (fun a b _ _ h1 h2 => leS_anti a b h1 h2) (sortT_pw a) (sortT_pw b)
theorem sortT_id {a : List Str} (h : a.Pairwise fun x y => leS x y = true) : sortT a = a :=
  (sortT_perm a).eq_of_pairwise (fun a b _ _ h1 h2 => leS_anti a b h1 h2) (sortT_pw a) h
theorem sortT_nodup {a : List Str} (h : a.Nodup) : (sortT a).Nodup := (sortT_perm a).nodup_iff.mpr h
theorem pairsOf_PF (j : List (Key × D)) : pairsOf j = PF (sortT (keysS j)) (valS j) := rfl
theorem PF_congr {ss : List Str} {f g : Str → D} (h : ∀ s ∈ ss, f s = g s) : PF ss f = PF ss g := List.map_congr_left fun s hs => by rw [h s hs]
theorem pairsOf_congr {v w : D → Bool} {j j' : List (Key × D)} (h : DI v j) (h' : DI w j') (e : ∀ s, valD j (.inr s) = valD j' (.inr s)) : pairsOf j = pairsOf j' := by
  have p : (keysS j).Perm (keysS j') := (List.perm_ext_iff_of_nodup (keysS_nodup h) (keysS_nodup h')).mpr fun s => by rw [mem_keysS h, mem_keysS h', e]
  rw [pairsOf_PF, pairsOf_PF, sortT_congr p]
  exact PF_congr fun s _ => by unfold valS; rw [e]
/-- the dict of a store's pairs -/
def sortK (j : List (Key × D)) : List (Key × D) := KF (sortT (keysS j)) (valS j)
theorem dictW_of {v : D → Bool} {j : List (Key × D)} (h : DI v j) : dictW (.tup (pairsOf j)) = ret (sortK j) := dictW_PF (sortT_nodup (keysS_nodup h))
theorem sortK_val {v : D → Bool} {j : List (Key × D)} (h : DI v j) (s : Str) : valD (sortK j) (.inr s) = valD j (.inr s) := by
  unfold sortK
  rw [valD_KF]
  by_cases q : s ∈ keysS j
  · obtain ⟨x, e, _⟩ := valD_some h q
    rw [if_pos (sortT_mem.mpr q), e]
    unfold valS
    rw [e]
    rfl
  · rw [if_neg fun z => q (sortT_mem.mp z)]
    cases e : valD j (.inr s) with
    | none => rfl
    | some x => exact absurd ((mem_keysS h s).mpr (by rw [e]; rfl)) q
theorem sortK_DI {v : D → Bool} {j : List (Key × D)} (h : DI v j) : DI v (sortK j) :=
  DI.kf (sortT_nodup (keysS_nodup h)) fun s hs => by
    obtain ⟨x, e, hx⟩ := valD_some h (sortT_mem.mp hs)
    refine ⟨keysS_word h (sortT_mem.mp hs), ?_⟩
    unfold valS
    rw [e]
    exact hx
theorem sortK_len (j : List (Key × D)) : (sortK j).length = j.length := by
  unfold sortK KF keysS
  rw [List.length_map, sortT_len, List.length_map]
theorem sortK_keys (j : List (Key × D)) : keysS (sortK j) = sortT (keysS j) := keysS_KF _ _
theorem overW_ok {a b : List (Key × D)} (h : a.length + b.length ≤ 1000000) : overW a b = ret (mergeD (mergeD [] a) b) := grd_pos (by rw [sizeLine_eq]; omega) _
theorem merge_nil {v : D → Bool} {a : List (Key × D)} (h : DI v a) : mergeD [] a = a := mergeD_new _ [] (by simpa using h.2)
/-- what is not None -/
def dropN (j : List (Key × D)) : List (Key × D) := j.filter fun kv => !isNone kv.2
theorem dropN_DI {v w : D → Bool} {j : List (Key × D)} (h : DI v j) (hw : ∀ x, v x = true → isNone x = false → w x = true) : DI w (dropN j) :=
  ⟨fun kv hk => by
    obtain ⟨h1, h2⟩ := List.mem_filter.mp hk
    obtain ⟨s, a, b, c⟩ := h.1 kv h1
    exact ⟨s, a, b, hw _ c (by simpa using h2)⟩, by
    have := h.2
    unfold dropN
    exact List.Pairwise.sublist (List.Sublist.map _ List.filter_sublist) this⟩
theorem dropN_val : ∀ {j : List (Key × D)}, (j.map (·.1)).Nodup → ∀ k, valD (dropN j) k = (valD j k).filter fun x => !isNone x
  | [], _, _ => rfl
  | (a, y) :: r, h, k => by
    rw [List.map_cons, List.nodup_cons] at h
    have ih := dropN_val h.2 k
    rw [valD_cons]
    by_cases e : a = k
    · subst e
      rw [if_pos rfl]
      unfold dropN
      rw [List.filter_cons]
      cases q : isNone y with
      | true =>
        simp only [q, Bool.not_true, Bool.false_eq_true, if_false, Option.filter_some]
        exact (ih.trans (by rw [valD_none h.1]; rfl))
      | false =>
        simp only [q, Bool.not_false, if_true, Option.filter_some]
        rw [valD_cons, if_pos rfl]
    · rw [if_neg e]
      unfold dropN
      rw [List.filter_cons]
      split
      · rw [valD_cons, if_neg e]
        exact ih
      · exact ih
theorem pairsOf_dropN {v : D → Bool} {j : List (Key × D)} (h : DI v j) : pairsOf (dropN j) = PF ((sortT (keysS j)).filter fun s => !isNone (valS j s)) (valS j) := by
  have hd : DI (fun _ => true) (dropN j) := dropN_DI h fun _ _ _ => rfl
  have ev : ∀ s, valD (dropN j) (.inr s) = (valD j (.inr s)).filter fun x => !isNone x := fun s => dropN_val h.2 _
  have p : (keysS (dropN j)).Perm ((sortT (keysS j)).filter fun s => !isNone (valS j s)) := by
    refine (List.perm_ext_iff_of_nodup (keysS_nodup hd) ((sortT_nodup (keysS_nodup h)).filter _)).mpr fun s => ?_
    rw [mem_keysS hd, ev, List.mem_filter, sortT_mem, mem_keysS h]
    unfold valS
    cases valD j (.inr s) with
    | none => simp
    | some x => cases q : isNone x <;> simp [Option.filter, q]
  rw [pairsOf_PF, sortT_congr p, sortT_id ((sortT_pw _).filter _)]
  refine PF_congr fun s hs => ?_
  obtain ⟨h1, h2⟩ := List.mem_filter.mp hs
  unfold valS at h2 ⊢
  rw [ev]
  cases q : valD j (.inr s) with
  | none => rfl
  | some x =>
    rw [q] at h2
    have h2 : (!isNone x) = true := h2
    simp [Option.filter, h2]
end PL

/-! Plain: data without bools and dicts, sorted items, entries dropped, words by letters, stores over known keys. -/
namespace PL
open PySem PySem.Spec L2
/-! ### data that is equal just when it is the same -/
inductive Pl : D → Prop
  | non : Pl .non
  | int (i : Int) : Pl (.int i)
  | str {s : Str} (h : okD (.str s) = true) : Pl (.str s)
  | lst {xs : List D} (h : ∀ x ∈ xs, Pl x) : Pl (.lst xs)
  | tup {xs : List D} (h : ∀ x ∈ xs, Pl x) : Pl (.tup xs)
theorem pys_lay : ∀ {xs : List D}, (∀ x ∈ xs, (py x).canLay0 = true) → PyData.canLayAll0 (pys xs) = true
  | [], _ => by simp [pys, PyData.canLayAll0]
  | x :: xs, h => by
    have := pys_lay (xs := xs) fun y hy => h y (List.mem_cons_of_mem _ hy)
    simp [pys, PyData.canLayAll0, h x List.mem_cons_self, this]
theorem Pl.lay : ∀ {x : D}, Pl x → (py x).canLay0 = true
  | _, .non => by simp [py, PyData.canLay0]
  | _, .int i => by simp [py, PyData.canLay0]
  | _, .str h => okD_lay h
  | _, .lst h => by
    have := pys_lay fun x hx => (h x hx).lay
    simp [py, PyData.canLay0, this]
  | _, .tup h => by
    have := pys_lay fun x hx => (h x hx).lay
    simp [py, PyData.canLay0, this]
theorem eqvs_iff : ∀ {xs ys : List D}, (∀ x ∈ xs, ∀ y ∈ ys, PyData.eqv (py x) (py y) = true ↔ x = y) → (PyData.eqvAll (pys xs) (pys ys) = true ↔ xs = ys)
  | [], [], _ => by simp [pys, PyData.eqvAll]
  | [], _ :: _, _ => by simp [pys, PyData.eqvAll]
  | _ :: _, [], _ => by simp [pys, PyData.eqvAll]
  | x :: xs, y :: ys, h => by
    have ih := eqvs_iff (xs := xs) (ys := ys) fun a ha b hb => h a (List.mem_cons_of_mem _ ha) b (List.mem_cons_of_mem _ hb)
    simp only [pys, PyData.eqvAll, Bool.and_eq_true, ih, h x List.mem_cons_self y List.mem_cons_self, List.cons.injEq]
theorem Pl.eqv_iff : ∀ {x : D}, Pl x → ∀ {y : D}, Pl y → (PyData.eqv (py x) (py y) = true ↔ x = y)
  | _, .non, _, hy => by cases hy <;> simp [py, PyData.eqv]
  | _, .int i, _, hy => by cases hy <;> simp [py, PyData.eqv]
  | _, .str h, _, hy => by cases hy <;> simp [py, PyData.eqv]
  | _, .lst h, _, hy => by
    cases hy with
    | lst h2 =>
      have := eqvs_iff fun x hx y hy => (h x hx).eqv_iff (h2 y hy)
      simp only [py, PyData.eqv, this, D.lst.injEq]
    | _ => simp [py, PyData.eqv]
  | _, .tup h, _, hy => by
    cases hy with
    | tup h2 =>
      have := eqvs_iff fun x hx y hy => (h x hx).eqv_iff (h2 y hy)
      simp only [py, PyData.eqv, this, D.tup.injEq]
    | _ => simp [py, PyData.eqv]
open Classical in
theorem Pl.eqv {x y : D} (hx : Pl x) (hy : Pl y) : PyData.eqv (py x) (py y) = decide (x = y) := by
  have h := hx.eqv_iff hy
  by_cases e : x = y
  · rw [h.mpr e]; exact (decide_eq_true e).symm
  · rw [Bool.eq_false_iff.mpr fun z => e (h.mp z)]; exact (decide_eq_false e).symm
/-- data of which repr and == can speak -/
structure Gd (k : Nat) (x : D) : Prop where
  pl : Pl x
  dp : (py x).depth ≤ k
theorem Gd.ok {k : Nat} {x : D} (h : Gd k x) (hk : k ≤ 63) : okD x = true := by
  unfold okD SeqAt.shaped
  rw [h.pl.lay]
  have := h.dp
  simp
  omega
theorem Gd.up {k j : Nat} {x : D} (h : Gd k x) (hk : k ≤ j) : Gd j x := ⟨h.pl, Nat.le_trans h.dp hk⟩
theorem Gd.tup {k : Nat} {xs : List D} (h : ∀ x ∈ xs, Gd k x) : Gd (k + 1) (.tup xs) :=
  ⟨.tup fun x hx => (h x hx).pl, by simp only [py, PyData.depth]; exact Nat.succ_le_succ (depths_le.mpr fun x hx => (h x hx).dp)⟩
theorem Gd.lst {k : Nat} {xs : List D} (h : ∀ x ∈ xs, Gd k x) : Gd (k + 1) (.lst xs) :=
  ⟨.lst fun x hx => (h x hx).pl, by simp only [py, PyData.depth]; exact Nat.succ_le_succ (depths_le.mpr fun x hx => (h x hx).dp)⟩
theorem Gd.int {k : Nat} {i : Int} : Gd k (.int i) := ⟨.int i, by simp [py, PyData.depth]⟩
theorem Gd.non {k : Nat} : Gd k .non := ⟨.non, by simp [py, PyData.depth]⟩
theorem Gd.str {k : Nat} {s : Str} (h : okD (.str s) = true) : Gd k (.str s) := ⟨.str h, by simp [py, PyData.depth]⟩
theorem word_ok {s : Str} (h : wordB (.str s) = true) : okD (.str s) = true := by
  have z : Sz 8 0 (.str s) := IsW.ok ⟨s, rfl, h⟩
  cases z.1 with
  | str h => exact h
/-! ### sorted(list(d.items())) -/
def intD0 : D → Int
  | .int i => i
  | _ => 0
theorem numB_int {x : D} (h : numB x = true) : x = .int (intD0 x) := by
  cases x with
  | int i => rfl
  | _ => cases h
def siK (j : List (Key × D)) : List (Str × Int) := j.map fun kv => (keyS kv.1, intD0 kv.2)
theorem items_si {j : List (Key × D)} (h : DI numB j) : itemsL j = (siK j).map siD := by
  unfold itemsL siK
  rw [List.map_map]
  refine List.map_congr_left fun kv hk => ?_
  obtain ⟨s, a, _, c⟩ := h.1 kv hk
  show D.tup [keyV kv.1, kv.2] = .tup [.str (keyS kv.1), .int (intD0 kv.2)]
  rw [a, ← numB_int c]
  rfl
theorem valD_of {v : D → Bool} : ∀ {j : List (Key × D)}, DI v j → ∀ kv ∈ j, valD j kv.1 = some kv.2
  | [], _, _, h => nomatch h
  | (a, y) :: r, h, kv, hk => by
    have h2 := h.2
    rw [List.map_cons, List.nodup_cons] at h2
    rw [valD_cons]
    rcases List.mem_cons.mp hk with rfl | hk
    · rw [if_pos rfl]
    · rw [if_neg fun e : a = kv.1 => h2.1 (by show a ∈ _; rw [e]; exact List.mem_map.mpr ⟨kv, hk, rfl⟩)]
      exact valD_of (j := r) ⟨fun kv hk => h.1 kv (List.mem_cons_of_mem _ hk), h2.2⟩ kv hk
/-! ### entries, differences -/
def vg (g : Bool) (y : D) : Bool := (g && isNone y) || numB y
section
variable {v : D → Bool} {a b : List (Key × D)}
theorem sort_over (ha : DI v a) (hb : DI v b) : DI v (mergeD (sortK a) (sortK b)) ∧ (mergeD (sortK a) (sortK b)).length ≤ a.length + b.length ∧ ∀ s, valD (mergeD (sortK a) (sortK b)) (.inr s) = (valD b (.inr s)).or (valD a (.inr s)) := by
  obtain ⟨h1, h2⟩ := DI.merge (sortK_DI ha) (sortK_DI hb).1
  rw [sortK_len, sortK_len] at h2
  exact ⟨h1, h2, fun s => by rw [valD_merge _ _ _ (sortK_DI hb).2, sortK_val hb, sortK_val ha]⟩
theorem merge_facts (ha : DI v a) (hb : DI v b) : DI v (mergeD a b) ∧ (mergeD a b).length ≤ a.length + b.length := DI.merge ha hb.1
end
theorem sel_ret {ss : List Str} {p : Str → Bool} {t : D → W Bool} {f : D → W D} {g : Str → D} (hl : ss.length ≤ 1000000) (ht : ∀ s ∈ ss, t (.str s) = ret (p s)) (hf : ∀ s ∈ ss, p s = true → f (.str s) = ret (g s)) :
    selP t f (ss.map .str) = ret ((ss.filter p).map g) := by
  rw [selP_ret (p := fun k => match k with | .str s => p s | _ => false) (g := fun k => match k with | .str s => g s | _ => .non) (by rw [List.length_map]; exact hl) (fun x hx => by
    obtain ⟨s, hs, rfl⟩ := List.mem_map.mp hx
    exact ht s hs) (fun x hx hp => by
    obtain ⟨s, hs, rfl⟩ := List.mem_map.mp hx
    exact hf s hs hp), List.filter_map, List.map_map]
  rfl
theorem num_vg (x : D) (h : numB x = true) : vg true x = true := by
  unfold vg
  rw [h, Bool.or_true]
theorem pairsOf_KF {ss : List Str} {h : Str → D} (hs : ss.Pairwise fun a b => leS a b = true) : pairsOf (KF ss h) = PF ss h := by
  rw [pairsOf_PF, keysS_KF, sortT_id hs]
  exact PF_congr fun s hs => by unfold valS; rw [valD_KF, if_pos hs]; rfl
section
variable {f g : List (Key × D)}
end
/-! ### d.pop(k), k in d -/
theorem dropD_DI {v : D → Bool} {j : List (Key × D)} (h : DI v j) (k : Key) : DI v (dropD j k) :=
  ⟨fun kv hk => h.1 kv (List.mem_filter.mp hk).1, List.Pairwise.sublist (List.Sublist.map _ List.filter_sublist) h.2⟩
theorem dropD_val (k k' : Key) : ∀ j : List (Key × D), valD (dropD j k) k' = if k' = k then none else valD j k'
  | [] => by
    show none = _
    split <;> rfl
  | (a, y) :: r => by
    have ih := dropD_val k k' r
    unfold dropD at ih ⊢
    rw [List.filter_cons]
    by_cases e : a = k
    · subst e
      simp only [ne_eq, not_true_eq_false, decide_false, Bool.false_eq_true, if_false]
      rw [ih, valD_cons]
      by_cases e2 : k' = a
      · rw [if_pos e2, if_pos e2]
      · rw [if_neg e2, if_neg e2, if_neg fun z => e2 z.symm]
    · simp only [ne_eq, e, not_false_eq_true, decide_true, if_true]
      rw [valD_cons, valD_cons, ih]
      by_cases e2 : a = k'
      · rw [if_pos e2, if_pos e2, if_neg fun z => e (e2.trans z)]
      · rw [if_neg e2, if_neg e2]
/-- a store behind a write -/
def wrt (j : List (Key × D)) (s : Str) (x : D) : List (Key × D) := if isNone x = true then dropD j (.inr s) else putD (dropD j (.inr s)) (.inr s) x
theorem wrt_DI {j : List (Key × D)} {s : Str} {x : D} (h : DI numB j) (hs : wordB (.str s) = true) (hx : vg true x = true) : DI numB (wrt j s x) := by
  unfold wrt
  split
  · exact dropD_DI h _
  · refine DI.put (dropD_DI h _) hs ?_
    unfold vg at hx
    rename_i q
    rw [Bool.or_eq_true] at hx
    exact hx.resolve_left fun z => q (by simpa using z)
theorem wrt_val (j : List (Key × D)) (s t : Str) (x : D) : valD (wrt j s x) (.inr t) = if t = s then (if isNone x = true then none else some x) else valD j (.inr t) := by
  unfold wrt
  split
  · rw [dropD_val]
    by_cases e : t = s
    · rw [if_pos e, if_pos (congrArg Sum.inr e)]
    · rw [if_neg e, if_neg fun z => e (Sum.inr.inj z)]
  · rw [valD_put, dropD_val]
    by_cases e : t = s
    · rw [if_pos e, if_pos (congrArg Sum.inr e)]
    · rw [if_neg e, if_neg fun z => e (Sum.inr.inj z), if_neg fun z => e (Sum.inr.inj z)]
theorem wrt_keys {j : List (Key × D)} {s : Str} {x : D} (h : DI numB j) (hs : wordB (.str s) = true) (hx : vg true x = true) {t : Str} (ht : t ∈ keysS (wrt j s x)) : t = s ∨ t ∈ keysS j := by
  rw [mem_keysS (wrt_DI h hs hx), wrt_val] at ht
  by_cases e : t = s
  · exact .inl e
  · rw [if_neg e] at ht
    exact .inr ((mem_keysS h t).mpr ht)
/-! ### stores over known keys -/
theorem nodup_len {α : Type} [DecidableEq α] : ∀ {l m : List α}, l.Nodup → (∀ x ∈ l, x ∈ m) → l.length ≤ m.length
  | [], _, _, _ => Nat.zero_le _
  | x :: l, m, h, hm => by
    have h2 := List.nodup_cons.mp h
    have hx : x ∈ m := hm x List.mem_cons_self
    have ih := nodup_len (l := l) (m := m.erase x) h2.2 fun y hy => (List.mem_erase_of_ne fun e : y = x => h2.1 (by rw [← e]; exact hy)).mpr (hm y (List.mem_cons_of_mem _ hy))
    rw [List.length_erase_of_mem hx] at ih
    have : 0 < m.length := List.length_pos_of_mem hx
    rw [List.length_cons]
    omega
def StK (K : List Str) (j : List (Key × D)) : Prop := DI numB j ∧ ∀ s ∈ keysS j, s ∈ K
def St (K : List Str) (d : D) : Prop := ∃ j, StK K j ∧ d = .tup (pairsOf j)
theorem StK.len {K : List Str} {j : List (Key × D)} (h : StK K j) : j.length ≤ K.length := by
  have := nodup_len (keysS_nodup h.1) h.2
  unfold keysS at this
  rwa [List.length_map] at this
theorem StK.wrt {K : List Str} {j : List (Key × D)} {s : Str} {x : D} (h : StK K j) (hs : wordB (.str s) = true) (hk : s ∈ K) (hx : vg true x = true) : StK K (wrt j s x) :=
  ⟨wrt_DI h.1 hs hx, fun t ht => (wrt_keys h.1 hs hx ht).elim (fun e => e ▸ hk) (h.2 t)⟩
theorem pairsOf_gd {j : List (Key × D)} (h : DI (vg true) j) : Gd 2 (.tup (pairsOf j)) := by
  refine .tup fun x hx => ?_
  obtain ⟨s, hs, rfl⟩ := List.mem_map.mp hx
  refine .tup fun y hy => ?_
  rcases List.mem_cons.mp hy with rfl | hy
  · exact .str (word_ok (keysS_word h (sortT_mem.mp hs)))
  · rw [List.mem_singleton.mp hy]
    obtain ⟨y, e, hy⟩ := valD_some h (sortT_mem.mp hs)
    have ev : valS j s = y := by unfold valS; rw [e]; rfl
    rw [ev]
    unfold vg at hy
    cases y with
    | non => exact .non
    | int i => exact .int
    | _ => simp [isNone, numB] at hy
theorem St.gd {K : List Str} {d : D} (h : St K d) : Gd 2 d := by
  obtain ⟨j, hj, rfl⟩ := h
  exact pairsOf_gd (hj.1.mono num_vg)
theorem St.of_pf {K ss : List Str} {g : Str → D} (hK : ∀ s ∈ K, wordB (.str s) = true) (hn : K.Nodup) (hs : List.Sublist ss (sortT K)) (hv : ∀ s ∈ ss, numB (g s) = true) : St K (.tup (PF ss g)) := by
  have hp : ss.Pairwise fun a b => leS a b = true := (sortT_pw K).sublist hs
  have hnd : ss.Nodup := (sortT_nodup hn).sublist hs
  have hm : ∀ s ∈ ss, s ∈ K := fun s h => sortT_mem.mp (hs.subset h)
  refine ⟨KF ss g, ⟨DI.kf hnd fun s h => ⟨hK s (hm s h), hv s h⟩, fun s h => ?_⟩, by rw [pairsOf_KF hp]⟩
  rw [keysS_KF] at h
  exact hm s h
/-! ### loops that gather -/
/-! ### letters -/
def chS (k : Nat) : Str := ⟨#[k]⟩
theorem abc_ix {i : Int} (h0 : 0 ≤ i) (h1 : i < 26) : ixD (.str (Str.ofString "abcdefghijklmnopqrstuvwxyz")) (.int i) = ret (.str (chS (97 + i.toNat))) := by
  obtain ⟨n, rfl⟩ := Int.eq_ofNat_of_zero_le h0
  have hn : n < 26 := by omega
  have e : ∀ n < 26, (Str.ofString "abcdefghijklmnopqrstuvwxyz").cps.toList[n]? = some (97 + n) := by
    rw [abc]
    decide
  exact ix_s (atI_nat (e n hn))
def strL (ks : List Nat) : Str := ⟨ks.toArray⟩
theorem strL_len (ks : List Nat) : (strL ks).length = ks.length := List.size_toArray
theorem chS_strL (k : Nat) : chS k = strL [k] := rfl
theorem str_app (a b : List Nat) : strL a ++ strL b = strL (a ++ b) := str_ext (by
  show ((strL a).cps ++ (strL b).cps).toList = a ++ b
  rw [Array.toList_append]
  rfl)
theorem addD_strL {a b : List Nat} (h : a.length + b.length ≤ 1000000) : addD (.str (strL a)) (.str (strL b)) = ret (.str (strL (a ++ b))) := by
  show grd _ (ret (D.str (strL a ++ strL b))) = _
  rw [str_app]
  exact grd_pos (by rw [strL_len, strL_len, sizeLine_eq]; omega) _
theorem strL_inj {a b : List Nat} (h : strL a = strL b) : a = b := by
  have := congrArg (fun s : Str => s.cps.toList) h
  exact this
theorem wordB_strL (ks : List Nat) (h1 : 1 ≤ ks.length) (h2 : ks.length ≤ 8) (h : ∀ k ∈ ks, lower k = true) : wordB (.str (strL ks)) = true := wordB_signs ks h1 h2 h
theorem letter_low {i : Int} (h0 : 0 ≤ i) (h1 : i < 26) : lower (97 + i.toNat) = true := decide_eq_true (by omega)
/-! ### the words of commands -/
abbrev wSet : Str := Str.ofString "set"
abbrev wDel : Str := Str.ofString "del"
abbrev wMark : Str := Str.ofString "mark"
abbrev wBack : Str := Str.ofString "back"
abbrev wKeep : Str := Str.ofString "keep"
theorem in_two (a b c : Str) : inFlat false (.str a) (.tup [.str b, .str c]) = ret (.bl (b == a || c == a)) := by
  show grd _ _ = _
  rw [grd_pos ⟨rfl, rfl⟩]
  simp [scEq]
theorem ww {a b : Str} (h : a ≠ b := by decide +kernel) : (a == b) = false := beq_false_of_ne h
theorem w_sm : (wSet == wMark) = false := ww
theorem w_sb : (wSet == wBack) = false := ww
theorem w_sk : (wSet == wKeep) = false := ww
theorem w_ds : (wDel == wSet) = false := ww
theorem w_dm : (wDel == wMark) = false := ww
theorem w_db : (wDel == wBack) = false := ww
theorem w_dk : (wDel == wKeep) = false := ww
theorem w_ms : (wMark == wSet) = false := ww
theorem w_mb : (wMark == wBack) = false := ww
theorem w_mk : (wMark == wKeep) = false := ww
theorem w_bs : (wBack == wSet) = false := ww
theorem w_bm : (wBack == wMark) = false := ww
theorem w_bk : (wBack == wKeep) = false := ww
theorem w_ks : (wKeep == wSet) = false := ww
theorem w_km : (wKeep == wMark) = false := ww
theorem w_kb : (wKeep == wBack) = false := ww
theorem intI_int (i : Int) : intI (.int i) = ret i := rfl
theorem lenI_tup (xs : List D) : lenI (.tup xs) = ret (xs.length : Int) := rfl
theorem unp2_tup (a b : D) : unp2 (.tup [a, b]) = ret (a, b) := rfl
end PL

namespace Q31
open PySem PySem.Spec L2 PL
@[irreducible] def d_is_integer (value : D) : W D :=
    andD (ret (.bl (isT .int value))) (ret (.bl (!(isT .bool value))))
def m_is_integer : List SV → W D
  | [.d value] => d_is_integer value
  | _ => stuck
@[irreducible] def d_is_between (value : D) (least : D) (most : D) : W D :=
    andD (cl (d_is_integer value)) (thenB (leD least value) (leD value most))
def m_is_between : List SV → W D
  | [.d value, .d least, .d most] => d_is_between value least most
  | _ => stuck
@[irreducible] def d_is_word (value : D) : W D :=
    bnd (orB (ret (!(isT .str value))) (bnd (lenI value) fun n => bnd (thenB (ret (.bl (decide (1 ≤ n)))) (ret (.bl (decide (n ≤ 8))))) fun k => bnd (blB k) fun k1 => ret (!k1))) fun kk => if kk = true then
    ret (.bl false)
    else
    bnd (codesD value) fun ks => bnd (mapP (fun sign => inStr false (chD sign) (.str (Str.ofString "abcdefghijklmnopqrstuvwxyz"))) ks) fun xs => allD (.lst xs)
def m_is_word : List SV → W D
  | [.d value] => d_is_word value
  | _ => stuck
@[irreducible] def d_is_value (value : D) : W D :=
    cl (d_is_between value (.int (-1000000000000000000)) (.int 1000000000000000000))
def m_is_value : List SV → W D
  | [.d value] => d_is_value value
  | _ => stuck
@[irreducible] def d_pairs_of (entries : D) : W D :=
    bnd (keysD entries) fun xs => bnd (sortW (.lst xs)) fun xs1 => bnd (mapP (fun key => bnd (dgetD entries key) fun y => ret (.tup [key, y])) xs1) fun xs2 => ret (.tup xs2)
def m_pairs_of : List SV → W D
  | [.d entries] => d_pairs_of entries
  | _ => stuck
@[irreducible] def d_overlaid (lower : D) (upper : D) : W D :=
    bnd (dictW lower) fun kvs => bnd (dictW upper) fun kvs1 => bnd (overW kvs kvs1) fun both => cl (d_pairs_of (.dic both))
def m_overlaid : List SV → W D
  | [.d lower, .d upper] => d_overlaid lower upper
  | _ => stuck
@[irreducible] def d_applied (store : D) (change : D) : W D :=
    bnd (bnd (cl (d_overlaid store change)) fun y => dictW y) fun later =>
    bnd (keysD (.dic later)) fun keys => bnd (selP (fun key => bnd (dgetD (.dic later) key) fun y2 => ret (!isNone y2)) (fun key => bnd (dgetD (.dic later) key) fun y1 => ret (.tup [key, y1])) keys) fun xs => ret (.tup xs)
def m_applied : List SV → W D
  | [.d store, .d change] => d_applied store change
  | _ => stuck
@[irreducible] def d_is_command (value : D) : W D :=
    bnd (orB (ret (!(isT .tup value))) (orB (bnd (lenI value) fun n => ret (decide (n < 2))) (orB (bnd (ixD value (.int 0)) fun y => ret (!(isT .str y))) (bnd (ixD value (.int 1)) fun y1 => bnd (cl (d_is_word y1)) fun y2 => bnd (tru y2) fun k => ret (!k))))) fun kk => if kk = true then
    ret (.bl false)
    else
    bnd (bnd (ixD value (.int 0)) fun y3 => eqB y3 (.str (Str.ofString "set"))) fun kk => if kk = true then
    andD (bnd (lenI value) fun n1 => ret (.bl (decide (n1 = 3)))) (bnd (ixD value (.int 2)) fun y4 => cl (d_is_value y4))
    else
    andD (bnd (lenI value) fun n2 => ret (.bl (decide (n2 = 2)))) (bnd (ixD value (.int 0)) fun y6 => inFlat false y6 (.tup [(.str (Str.ofString "del")), (.str (Str.ofString "mark")), (.str (Str.ofString "back")), (.str (Str.ofString "keep"))]))
def m_is_command : List SV → W D
  | [.d value] => d_is_command value
  | _ => stuck
@[irreducible] def d_is_write (command : D) : W D :=
    bnd (ixD command (.int 0)) fun y => inFlat false y (.tup [(.str (Str.ofString "set")), (.str (Str.ofString "del"))])
def m_is_write : List SV → W D
  | [.d command] => d_is_write command
  | _ => stuck
@[irreducible] def d_entry_of (command : D) : W D :=
    bnd (ixD command (.int 0)) fun y => bnd (eqB y (.str (Str.ofString "set"))) fun k => if k = true then ixD command (.int 2) else ret .non
def m_entry_of : List SV → W D
  | [.d command] => d_entry_of command
  | _ => stuck
@[irreducible] def d_first_invalid (value : D) : W D :=
    bnd (orB (ret (!(isA [.tup, .lst] value))) (bnd (lenI value) fun n => ret (decide (60 < n)))) fun kk => if kk = true then
    ret (.tup [.non])
    else
    bnd (enumI value) fun es => forT (fun p j =>
    bnd (bnd (cl (d_is_command p.2)) fun y => bnd (tru y) fun k1 => ret (!k1)) fun kk => if kk = true then
    ret (.out (.tup [(.int p.1)]))
    else
    ret (.go ())) (fun j1 =>
    ret (.tup [])) es ()
def m_first_invalid : List SV → W D
  | [.d value] => d_first_invalid value
  | _ => stuck
@[irreducible] def d_need_script (value : D) : W D :=
    bnd (cl (d_first_invalid value)) fun wrong =>
    bnd (neB wrong (.tup [])) fun kk => if kk = true then
    stuck
    else
    ret .non
def m_need_script : List SV → W D
  | [.d value] => d_need_script value
  | _ => stuck
@[irreducible] def d_rule_of_writes (first : D) (second : D) (right : D) : W D :=
    bnd (bnd (ixD second (.int 0)) fun y => eqB y (.str (Str.ofString "back"))) fun kk => if kk = true then
    bnd (eqB right (.tup [second])) fun k1 => if k1 = true then ret (.int 6) else ret .non
    else
    bnd (bnd (ixD second (.int 0)) fun y1 => eqB y1 (.str (Str.ofString "keep"))) fun kk => if kk = true then
    bnd (eqB right (.tup [second, first])) fun k3 => if k3 = true then ret (.int 5) else ret .non
    else
    bnd (bnd (cl (d_is_write second)) fun y2 => bnd (tru y2) fun k4 => ret (!k4)) fun kk => if kk = true then
    ret .non
    else
    bnd (bnd (ixD first (.int 1)) fun y3 => bnd (ixD second (.int 1)) fun y4 => eqB y3 y4) fun kk => if kk = true then
    bnd (eqB right (.tup [second])) fun k6 => if k6 = true then ret (.int 3) else ret .non
    else
    bnd (eqB right (.tup [second, first])) fun k7 => if k7 = true then ret (.int 4) else ret .non
def m_rule_of_writes : List SV → W D
  | [.d first, .d second, .d right] => d_rule_of_writes first second right
  | _ => stuck
@[irreducible] def d_rule_of_two (left : D) (right : D) : W D :=
    bnd (unp2 left) fun p =>
    bnd (bnd (cl (d_is_write p.1)) fun y => tru y) fun kk => if kk = true then
    cl (d_rule_of_writes p.1 p.2 right)
    else
    bnd (orB (bnd (ixD p.1 (.int 0)) fun y2 => neB y2 (.str (Str.ofString "mark"))) (bnd (ixD p.2 (.int 0)) fun y3 => bnd (inFlat true y3 (.tup [(.str (Str.ofString "back")), (.str (Str.ofString "keep"))])) fun k2 => blB k2)) fun kk => if kk = true then
    ret .non
    else
    bnd (bnd (ixD p.1 (.int 1)) fun y4 => bnd (ixD p.2 (.int 1)) fun y5 => neB y4 y5) fun kk => bnd (if kk = true then
    bnd (bnd (ixD p.2 (.int 0)) fun y6 => bnd (eqB y6 (.str (Str.ofString "back"))) fun k6 => ret ((7 + (if k6 then 1 else 0)), [p.2])) fun p1 =>
    ret (p1.1, p1.2)
    else
    bnd (bnd (ixD p.2 (.int 0)) fun y7 => eqB y7 (.str (Str.ofString "keep"))) fun kk => if kk = true then
    ret (1, [])
    else
    ret (2, [p.1])) fun j =>
    bnd (eqB right (.tup j.2)) fun k8 => if k8 = true then ret (.int j.1) else ret .non
def m_rule_of_two : List SV → W D
  | [.d left, .d right] => d_rule_of_two left right
  | _ => stuck
@[irreducible] def d_rule_of_three (left : D) (right : D) : W D :=
    bnd (unp3 left) fun p =>
    bnd (bnd (cl (d_is_write p.1)) fun y => tru y) fun kk => if kk = true then
    bnd (andB (bnd (ixD p.2.1 (.int 0)) fun y1 => eqB y1 (.str (Str.ofString "mark"))) (andB (eqB p.2.2 p.1) (eqB right (.tup [p.1, p.2.1])))) fun k4 => if k4 = true then ret (.int 11) else ret .non
    else
    bnd (orB (bnd (ixD p.1 (.int 0)) fun y2 => neB y2 (.str (Str.ofString "back"))) (bnd (ixD p.1 (.int 1)) fun y3 => neB p.2.1 (.tup [(.str (Str.ofString "keep")), y3]))) fun kk => if kk = true then
    ret .non
    else
    bnd (bnd (ixD p.2.2 (.int 0)) fun y4 => eqB y4 (.str (Str.ofString "back"))) fun kk => if kk = true then
    bnd (eqB right (.tup [p.2.1, p.2.2])) fun k9 => if k9 = true then ret (.int 9) else ret .non
    else
    bnd (andB (bnd (ixD p.1 (.int 1)) fun y5 => eqB p.2.2 (.tup [(.str (Str.ofString "mark")), y5])) (eqB right (.tup [p.1]))) fun k12 => if k12 = true then ret (.int 10) else ret .non
def m_rule_of_three : List SV → W D
  | [.d left, .d right] => d_rule_of_three left right
  | _ => stuck
@[irreducible] def d_rule_from (left : D) (right : D) : W D :=
    bnd (bnd (lenI left) fun n => ret (decide (n = 2))) fun kk => if kk = true then
    cl (d_rule_of_two left right)
    else
    bnd (lenI left) fun n1 => if (decide (n1 = 3)) = true then cl (d_rule_of_three left right) else ret .non
def m_rule_from : List SV → W D
  | [.d left, .d right] => d_rule_from left right
  | _ => stuck
@[irreducible] def d_rule_of (before : D) (after : D) : W D :=
    bnd (bnd (cl (d_rule_from before after)) fun y => bnd (cl (d_rule_from after before)) fun y1 => ret [y, y1]) fun found =>
    bnd (selP (fun number => ret (!isNone number)) (fun number => ret number) found) fun xs => minNW (.lst xs)
def m_rule_of : List SV → W D
  | [.d before, .d after] => d_rule_of before after
  | _ => stuck
@[irreducible] def d_nearest_place (pile : D) (name : D) : W D :=
    bnd (bnd (lenI pile) fun n => rngM (n - 1) (-1)) fun isV => forT (fun place j =>
    bnd (bnd (ixD pile (.int place)) fun y => bnd (ixD y (.int 0)) fun y1 => eqB y1 name) fun kk => if kk = true then
    ret (.out (.int place))
    else
    ret (.go ())) (fun j1 =>
    ret .non) isV ()
def m_nearest_place : List SV → W D
  | [.d pile, .d name] => d_nearest_place pile name
  | _ => stuck
@[irreducible] def d_done (state : D) (command : D) : W D :=
    bnd (unp2 state) fun p =>
    bnd (bnd (cl (d_is_write command)) fun y => tru y) fun kk => if kk = true then
    bnd (ixD command (.int 1)) fun y1 => bnd (cl (d_entry_of command)) fun y2 => bnd (cl (d_applied p.1 (.tup [(.tup [y1, y2])]))) fun y3 => ret (.tup [y3, p.2])
    else
    bnd (bnd (ixD command (.int 0)) fun y4 => eqB y4 (.str (Str.ofString "mark"))) fun kk => if kk = true then
    bnd (ixD command (.int 1)) fun y5 => bnd (addD p.2 (.tup [(.tup [y5, p.1])])) fun c => ret (.tup [p.1, c])
    else
    bnd (bnd (ixD command (.int 1)) fun y6 => cl (d_nearest_place p.2 y6)) fun place =>
    if (isNone place) = true then
    ret .non
    else
    bnd (bnd (ixD command (.int 0)) fun y8 => eqB y8 (.str (Str.ofString "back"))) fun kk => if kk = true then
    bnd (intI place) fun i => bnd (ixD p.2 (.int i)) fun y9 => bnd (ixD y9 (.int 1)) fun y10 => bnd (intI place) fun i1 => bnd (slD p.2 none (some (i1 + 1))) fun s => ret (.tup [y10, s])
    else
    bnd (intI place) fun i2 => bnd (slD p.2 none (some i2)) fun s1 => ret (.tup [p.1, s1])
def m_done : List SV → W D
  | [.d state, .d command] => d_done state command
  | _ => stuck
@[irreducible] def d_outcome (state : D) (commands : D) : W D :=
    bnd (cl (d_need_script commands)) fun _ =>
    bnd (enumI commands) fun es => forT (fun p j =>
    bnd (cl (d_done j p.2)) fun state1 =>
    if (isNone state1) = true then
    ret (.out (.tup [(.str (Str.ofString "refused")), (.int p.1)]))
    else
    ret (.go state1)) (fun j1 =>
    ret (.tup [(.str (Str.ofString "done")), j1])) es state
def m_outcome : List SV → W D
  | [.d state, .d commands] => d_outcome state commands
  | _ => stuck
@[irreducible] def d_l_pick (someV : D) : W D :=
    bnd (lenI someV) fun n => bnd (drw n) fun r => ixD someV (.int r)
def m_l_pick : List SV → W D
  | [.pen, .d someV] => d_l_pick someV
  | _ => stuck
@[irreducible] def d_l_words (many : Int) : W D :=
    bnd (drw 4) fun way =>
    bnd (drw 26) fun startV =>
    if (decide (way < 2)) = true then
    bnd (rngI many) fun isV => bnd (mapP (fun k => ixD (.str (Str.ofString "abcdefghijklmnopqrstuvwxyz")) (.int k)) isV) fun xs => ret (.lst xs)
    else
    if (decide (way = 2)) = true then
    bnd (rngI many) fun isV1 => bnd (mapP (fun k1 => bnd (ixD (.str (Str.ofString "abcdefghijklmnopqrstuvwxyz")) (.int startV)) fun y1 => repSD y1 (.int (8 - k1))) isV1) fun xs1 => ret (.lst xs1)
    else
    bnd (rngI many) fun isV2 => forT (fun k2 j =>
    bnd (bnd (drw 8) fun r2 => bnd (rngI r2) fun isV3 => mapP (fun j1 => bnd (drw 26) fun r3 => ixD (.str (Str.ofString "abcdefghijklmnopqrstuvwxyz")) (.int r3)) isV3) fun tail =>
    bnd (bnd (mulI 7 k2) fun i => bnd (modI (startV + i) 26) fun i1 => bnd (ixD (.str (Str.ofString "abcdefghijklmnopqrstuvwxyz")) (.int i1)) fun y3 => bnd (joinD (.str (Str.ofString "")) (.lst tail)) fun j2 => addD y3 j2) fun app => roomL j (
    ret (.go (j ++ [app])))) (fun j3 =>
    ret (.lst j3)) isV2 []
def m_l_words : List SV → W D
  | [.pen, .d (.int many)] => d_l_words many
  | _ => stuck
@[irreducible] def d_l_value : W D :=
    bnd (drw 4) fun way =>
    bnd (drw 3) fun near =>
    bnd (ixD (.lst [(.int 1000000000000000000), (.int (0 - 1000000000000000000)), (.int 1)]) (.int near)) fun y => ixD (.lst [(.int near), (.int near), (.int (0 - near)), y]) (.int way)
def m_l_value : List SV → W D
  | [.pen] => d_l_value
  | _ => stuck
@[irreducible] def d_l_command (words : D) (keys : D) : W D :=
    bnd (drw 9) fun way =>
    if (decide (way < 3)) = true then
    bnd (d_l_pick keys) fun y => bnd (d_l_value) fun y1 => ret (.tup [(.str (Str.ofString "set")), y, y1])
    else
    if (decide (way = 3)) = true then
    bnd (d_l_pick keys) fun y2 => ret (.tup [(.str (Str.ofString "del")), y2])
    else
    bnd (ixD (.lst [(.str (Str.ofString "mark")), (.str (Str.ofString "mark")), (.str (Str.ofString "back")), (.str (Str.ofString "keep")), (.str (Str.ofString "keep"))]) (.int (way - 4))) fun y3 => bnd (d_l_pick words) fun y4 => ret (.tup [y3, y4])
def m_l_command : List SV → W D
  | [.pen, .d words, .d keys] => d_l_command words keys
  | _ => stuck
@[irreducible] def d_l_commands (words : D) (keys : D) (most : Int) : W D :=
    bnd (bnd (drw (most + 1)) fun r => bnd (drw 2) fun r1 => ixD (.lst [(.int most), (.int r)]) (.int r1)) fun size =>
    bnd (intI size) fun i => bnd (rngI i) fun isV => bnd (mapP (fun k => d_l_command words keys) isV) fun xs => ret (.lst xs)
def m_l_commands : List SV → W D
  | [.pen, .d words, .d keys, .d (.int most)] => d_l_commands words keys most
  | _ => stuck
@[irreducible] def d_l_store (keys : D) : W D :=
    bnd (sortW keys) fun xs => forT (fun key j =>
    bnd (bnd (drw 3) fun r => ret (decide (0 < r))) fun kk => if kk = true then
    bnd (bnd (d_l_value) fun y => ret [key, y]) fun app => roomL j (
    ret (.go (j ++ [(.tup app)])))
    else
    ret (.go j)) (fun j1 =>
    ret (.tup j1)) xs []
def m_l_store : List SV → W D
  | [.pen, .d keys] => d_l_store keys
  | _ => stuck
@[irreducible] def d_l_state (words : D) (keys : D) (most : Int) : W D :=
    bnd (bnd (drw (most + 1)) fun r => bnd (drw 2) fun r1 => ixD (.lst [(.int most), (.int r)]) (.int r1)) fun size =>
    bnd (bnd (intI size) fun i => bnd (rngI i) fun isV => mapP (fun k => bnd (d_l_pick words) fun y1 => bnd (d_l_store keys) fun y2 => ret (.tup [y1, y2])) isV) fun pile =>
    bnd (d_l_store keys) fun y3 => ret (.tup [y3, (.tup pile)])
def m_l_state : List SV → W D
  | [.pen, .d words, .d keys, .d (.int most)] => d_l_state words keys most
  | _ => stuck
@[irreducible] def d_l_do (house : D) (deed : D) : W D :=
    bnd (unp2 house) fun p =>
    bnd (bnd (ixD deed (.int 0)) fun y => bnd (inFlat false y (.tup [(.str (Str.ofString "set")), (.str (Str.ofString "del"))])) fun k => blB k) fun kk => if kk = true then
    bnd (bnd (itemsXD p.1) fun pairs => bnd (selP (fun pair => bnd (ixD pair (.int 0)) fun y1 => bnd (ixD deed (.int 1)) fun y2 => bnd (neB y1 y2) fun k2 => ret k2) (fun pair => ret pair) pairs) fun xs => dictW (.lst xs)) fun later =>
    bnd (bnd (ixD deed (.int 0)) fun y3 => eqB y3 (.str (Str.ofString "set"))) fun kk => bnd (if kk = true then
    bnd (bnd (ixD deed (.int 2)) fun y4 => bnd (ixD deed (.int 1)) fun y5 => putW later y5 y4) fun later1 =>
    ret later1
    else
    ret later) fun j =>
    ret (.tup [(.dic j), p.2])
    else
    bnd (bnd (ixD deed (.int 0)) fun y6 => eqB y6 (.str (Str.ofString "mark"))) fun kk => if kk = true then
    bnd (ixD deed (.int 1)) fun y7 => bnd (addD p.2 (.lst [(.tup [y7, p.1])])) fun c => ret (.tup [p.1, c])
    else
    bnd (bnd (lenI p.2) fun n => bnd (rngI n) fun isV => selP (fun atV => bnd (ixD p.2 (.int atV)) fun y8 => bnd (ixD y8 (.int 0)) fun y9 => bnd (ixD deed (.int 1)) fun y10 => bnd (eqB y9 y10) fun k5 => ret k5) (fun atV => ret (.int atV)) isV) fun places =>
    bnd (eqB (.lst places) (.lst [])) fun kk => if kk = true then
    ret .non
    else
    bnd (bnd (ixD deed (.int 0)) fun y11 => eqB y11 (.str (Str.ofString "back"))) fun kk => if kk = true then
    bnd (ixD (.lst places) (.int (-1))) fun y12 => bnd (intI y12) fun i => bnd (ixD p.2 (.int i)) fun y13 => bnd (ixD y13 (.int 1)) fun y14 => bnd (ixD (.lst places) (.int (-1))) fun y15 => bnd (intI y15) fun i1 => bnd (slD p.2 none (some (i1 + 1))) fun s => ret (.tup [y14, s])
    else
    bnd (ixD (.lst places) (.int (-1))) fun y16 => bnd (intI y16) fun i2 => bnd (slD p.2 none (some i2)) fun s1 => ret (.tup [p.1, s1])
def m_l_do : List SV → W D
  | [.d house, .d deed] => d_l_do house deed
  | _ => stuck
@[irreducible] def d_l_run (house : D) (deeds : D) : W D :=
    bnd (items deeds) fun xs => forT (fun deed j =>
    if (!isNone j) = true then
    bnd (cl (d_l_do j deed)) fun house1 =>
    ret (.go house1)
    else
    ret (.go j)) (fun j1 =>
    ret j1) xs house
def m_l_run : List SV → W D
  | [.d house, .d deeds] => d_l_run house deeds
  | _ => stuck
@[irreducible] def d_l_opened (house : D) : W D :=
    bnd (ixD house (.int 0)) fun y => bnd (items y) fun xs => bnd (dictW (.lst xs)) fun kvs => bnd (ixD house (.int 1)) fun y1 => bnd (items y1) fun xs1 => bnd (mapP (fun mark => bnd (ixD mark (.int 0)) fun y2 => bnd (ixD mark (.int 1)) fun y3 => bnd (items y3) fun xs2 => bnd (dictW (.lst xs2)) fun kvs1 => ret (.tup [y2, (.dic kvs1)])) xs1) fun xs3 => ret (.tup [(.dic kvs), (.lst xs3)])
def m_l_opened : List SV → W D
  | [.d house] => d_l_opened house
  | _ => stuck
@[irreducible] def d_l_shut (house : D) : W D :=
    bnd (bnd (ixD house (.int 1)) fun y => bnd (items y) fun xs => mapP (fun mark => bnd (ixD mark (.int 0)) fun y1 => bnd (ixD mark (.int 1)) fun y2 => bnd (itemsXD y2) fun pairs => bnd (sortGW (.lst pairs)) fun xs1 => ret (.tup [y1, (.tup xs1)])) xs) fun pile =>
    bnd (ixD house (.int 0)) fun y3 => bnd (itemsXD y3) fun pairs1 => bnd (sortGW (.lst pairs1)) fun xs2 => ret (.tup [(.tup xs2), (.tup pile)])
def m_l_shut : List SV → W D
  | [.d house] => d_l_shut house
  | _ => stuck
@[irreducible] def d_l_sides (number : Int) (a : D) (b : D) (one : D) (other : D) : W D :=
    bnd (orB (andB (bnd (inFlat false (.int number) (.tup [(.int 7), (.int 8)])) fun k => blB k) (eqB a b)) (orB (andB (ret (decide (number = 3))) (bnd (ixD one (.int 1)) fun y => bnd (ixD other (.int 1)) fun y1 => neB y y1)) (andB (ret (decide (number = 4))) (bnd (ixD one (.int 1)) fun y2 => bnd (ixD other (.int 1)) fun y3 => eqB y2 y3)))) fun kk => if kk = true then
    ret .non
    else
    bnd (addL [(.lst [(.tup [(.str (Str.ofString "mark")), a]), (.tup [(.str (Str.ofString "keep")), a])]), (.lst [(.tup [(.str (Str.ofString "mark")), a]), (.tup [(.str (Str.ofString "back")), a])]), (.lst [one, other]), (.lst [one, other]), (.lst [one, (.tup [(.str (Str.ofString "keep")), a])]), (.lst [one, (.tup [(.str (Str.ofString "back")), a])]), (.lst [(.tup [(.str (Str.ofString "mark")), b]), (.tup [(.str (Str.ofString "keep")), a])])] [(.lst [(.tup [(.str (Str.ofString "mark")), b]), (.tup [(.str (Str.ofString "back")), a])]), (.lst [(.tup [(.str (Str.ofString "back")), a]), (.tup [(.str (Str.ofString "keep")), a]), (.tup [(.str (Str.ofString "back")), b])]), (.lst [(.tup [(.str (Str.ofString "back")), a]), (.tup [(.str (Str.ofString "keep")), a]), (.tup [(.str (Str.ofString "mark")), a])]), (.lst [one, (.tup [(.str (Str.ofString "mark")), a]), one])]) fun left =>
    bnd (addL [(.lst []), (.lst [(.tup [(.str (Str.ofString "mark")), a])]), (.lst [other]), (.lst [other, one]), (.lst [(.tup [(.str (Str.ofString "keep")), a]), one]), (.lst [(.tup [(.str (Str.ofString "back")), a])]), (.lst [(.tup [(.str (Str.ofString "keep")), a])]), (.lst [(.tup [(.str (Str.ofString "back")), a])]), (.lst [(.tup [(.str (Str.ofString "keep")), a]), (.tup [(.str (Str.ofString "back")), b])]), (.lst [(.tup [(.str (Str.ofString "back")), a])])] [(.lst [one, (.tup [(.str (Str.ofString "mark")), a])])]) fun right =>
    bnd (ixD (.lst left) (.int (number - 1))) fun y4 => bnd (tupD y4) fun t => bnd (ixD (.lst right) (.int (number - 1))) fun y5 => bnd (tupD y5) fun t1 => ret (.tup [t, t1])
def m_l_sides : List SV → W D
  | [.d (.int number), .d a, .d b, .d one, .d other] => d_l_sides number a b one other
  | _ => stuck
@[irreducible] def d_l_write (keys : D) : W D :=
    bnd (d_l_pick keys) fun key =>
    bnd (d_l_value) fun y1 => bnd (drw 3) fun r => ixD (.lst [(.tup [(.str (Str.ofString "set")), key, y1]), (.tup [(.str (Str.ofString "del")), key])]) (.int (if (decide (r = 0)) then 1 else 0))
def m_l_write : List SV → W D
  | [.pen, .d keys] => d_l_write keys
  | _ => stuck
@[irreducible] def d_l_alike (house : D) (mine : D) (yours : D) : W D :=
    bnd (bnd (cl (d_outcome house mine)) fun y => bnd (cl (d_outcome house yours)) fun y1 => ret [y, y1]) fun found =>
    bnd (bnd (cl (d_l_opened house)) fun y2 => cl (d_l_run y2 mine)) fun due =>
    if (isNone due) = true then
    andD (bnd (ixD (.lst found) (.int 0)) fun y4 => bnd (ixD y4 (.int 0)) fun y5 => bnd (eqB y5 (.str (Str.ofString "refused"))) fun k => ret (.bl k)) (bnd (ixD (.lst found) (.int 1)) fun y6 => bnd (ixD y6 (.int 0)) fun y7 => bnd (eqB y7 (.str (Str.ofString "refused"))) fun k1 => ret (.bl k1))
    else
    bnd (cl (d_l_shut due)) fun y8 => bnd (cl (d_l_shut due)) fun y9 => bnd (eqB (.lst found) (.lst [(.tup [(.str (Str.ofString "done")), y8]), (.tup [(.str (Str.ofString "done")), y9])])) fun k2 => ret (.bl k2)
def m_l_alike : List SV → W D
  | [.d house, .d mine, .d yours] => d_l_alike house mine yours
  | _ => stuck
@[irreducible] def d_law : W D :=
    bnd (rngK 8) fun isV => forT (fun turn j =>
    bnd (d_l_words 3) fun words =>
    bnd (d_l_words 3) fun keys =>
    bnd (d_l_state words keys 8) fun house =>
    bnd (bnd (drw 11) fun r => ret (1 + r)) fun number =>
    bnd (bnd (d_l_pick words) fun y3 => bnd (d_l_pick words) fun y4 => ret (y3, y4)) fun p =>
    bnd (bnd (d_l_write keys) fun y5 => bnd (d_l_write keys) fun y6 => ret (y5, y6)) fun p1 =>
    bnd (cl (d_l_sides number p.1 p.2 p1.1 p1.2)) fun sides =>
    bnd (ret (isNone sides)) fun kk => bnd (if kk = true then
    bnd (cl (d_l_sides 9 p.1 p.2 p1.1 p1.2)) fun sides1 =>
    ret (9, sides1)
    else
    ret (number, sides)) fun j1 =>
    bnd (d_l_commands words keys 6) fun head =>
    bnd (d_l_commands words keys 6) fun tail =>
    bnd (orB (bnd (ixD j1.2 (.int 0)) fun y11 => bnd (ixD j1.2 (.int 1)) fun y12 => bnd (cl (d_rule_of y11 y12)) fun y13 => neB y13 (.int j1.1)) (bnd (ixD j1.2 (.int 1)) fun y14 => bnd (ixD j1.2 (.int 0)) fun y15 => bnd (cl (d_rule_of y14 y15)) fun y16 => neB y16 (.int j1.1))) fun kk => if kk = true then
    ret (.out (.bl false))
    else
    forT (fun restV j2 =>
    forT (fun startV j3 =>
    bnd (bnd (ixD j1.2 (.int 0)) fun y17 => bnd (items y17) fun xs => bnd (addD startV (.lst xs)) fun c => addD c restV) fun mine =>
    bnd (bnd (ixD j1.2 (.int 1)) fun y18 => bnd (items y18) fun xs1 => bnd (addD startV (.lst xs1)) fun c2 => addD c2 restV) fun yours =>
    bnd (bnd (cl (d_l_alike house mine yours)) fun y19 => bnd (tru y19) fun k3 => ret (!k3)) fun kk => if kk = true then
    ret (.out (.out (.out (.bl false))))
    else
    ret (.go ())) (fun j4 =>
    ret (.go ())) [(.lst []), head] ()) (fun j5 =>
    ret (.go ())) [(.lst []), tail] ()) (fun j6 =>
    ret (.bl true)) isV ()
end Q31

namespace Q31
open PySem PySem.Spec L2 PL
def topS (i : Nat) : Stmt := PySem.Challenge.pw_rewindplan_k31_whole_rules_act_alike.main.body.getD i (.Pass ⟨0, 0, 0, 0⟩)
section
variable {P : Program} {w : World} {K : PySem.W.Frag} {mg : Str → Option Value} {base : Heap}
abbrev sDraw : Stmt := topS 38
theorem sc_draw : FnScope ["_law_pen_here", "_law_many", "_law_digit", "_law_at", "_law_cell", "_law_whole", "_law_mixed"] ["_law_pen_here", "_law_many"] (defScope sDraw) := ⟨rfl, rfl, rfl, by decide +kernel, rfl, by decide +kernel, by decide +kernel⟩
set_option maxHeartbeats 0 in
theorem ok_draw {k : Nat} {f : Addr} {fd : FuncData} {T : List (Addr × Str)} {mgl : Str → Option Value} {bb : Bool} (F : Fun K "_law_draw" "_law_draw" sDraw f fd) (ml : mg "len" = none) (mb : mg "abs" = none) (mi : mg "int" = none) :
    FnG P w K mg base (k + 1) f fd ["_law_pen_here", "_law_many"] (spM ((penG.wt T mgl).wc bb) K mg 2 drawM) := by
  refine FnG.of_body F sc_draw (fun vs H Q E ⟨S, pen, args, n, P, PX, hl, _, _, _, _, r, _⟩ => r.len.trans hl) fun cdv A outer s H vs Q E hg hr ⟨S, pen, args, n, Pd, PX, hl, dom, hp, htb, hmu, r, q, hq, hx⟩ => ?_
  obtain ⟨b, rfl, hn, hb0, hb1, q⟩ := drawM_inv q
  obtain ⟨v1, ws1, rfl, ⟨p, rfl, rfl⟩, v2, ws2, rfl, e4, e5⟩ := r
  obtain rfl : ws2 = [] := e5
  obtain rfl : v2 = V.int b := e4
  obtain ⟨⟨hne, cs, t, g, ha, hb, hcs, ht, htn, hg0⟩, nS1, nS2⟩ := hp p rfl
  obtain ⟨a, ca⟩ := p
  have nd := sc_draw.nd
  have t0 : (0 : Int) ≤ t * t := Int.mul_nonneg ht ht
  have t1 : t * t ≤ 4000000 * 4000000 := sq_le ht (by unfold drawMax at hn; omega)
  have t2 : t < 4000000 := by unfold drawMax at hn; omega
  -- the end, from any cell
  obtain ⟨u2, U2, hU2⟩ : ∃ u, PSs (cxOf (L2.CX P w) P w K mg base ["_law_pen_here", "_law_many", "_law_digit", "_law_at", "_law_cell", "_law_whole", "_law_mixed"] "_law_draw" (defScope sDraw) f cdv A outer s H E) ((defBody sDraw).drop 6) u ∧
      ∀ (z : Int) (H2 : Hp), H2 a = some (.lst [.ref ca, .int (t + 1), .int g]) → (∀ x o, x ≠ a → H x = some o → H2 x = some o) → u { nx := fun _ H' => Q .non H', rt := Q } [some (.ref a), some (.int b), none, some (.int t), some (.int z), none, none] H2 := by
    refine ⟨_, pss_cons (ps_set (i := 6) nd rfl (.inl rfl) (pe_op op_mod (pe_op op_pow (pe_op op_add (pe_op op_add (pe_op op_mod (pv 4) pe_int) (pe_op op_mul pe_int (pv 3))) pe_int) pe_int) pe_int))
    (pss_cons (ps_set (i := 6) nd rfl (.inl rfl) (pe_op op_mod (pe_op op_pow (pe_op op_add (pe_op op_add (pe_op op_mul (pv 6) (pe_op op_add (pv 3) pe_int)) (pe_op op_mul (pe_op op_mul pe_int (pv 3)) (pv 3))) pe_int) pe_int) pe_int))
    (pss_one (ps_ret (pe_op op_mod (pe_op op_fdiv (pv 6) pe_int) (pv 1))))), fun z H2 h2a h2 => ?_⟩
    have m0 : ∀ y M : Int, 0 < M → 0 ≤ y % M ∧ y % M < M := fun y M h => ⟨Int.emod_nonneg _ (by omega), Int.emod_lt_of_pos _ h⟩
    refine ⟨_, rfl, _, _, rfl, rfl, (by show (0 : Int) < _; decide), _, rfl, _, _, rfl, rfl, .inr ⟨by omega, by omega⟩, _, _, rfl, rfl, _, _, rfl, rfl, ?_⟩
    have q1 := m0 z 2147483563 (by decide)
    refine ⟨_, _, rfl, rfl, ⟨by decide, by decide, by omega⟩, _, _, rfl, rfl, (by show (0 : Int) < _; decide), ?_⟩
    have q2 : 0 ≤ ((z % 2147483563 + 41017 * t + 1009) ^ (3 : Int).toNat % 2147483647) ∧ ((z % 2147483563 + 41017 * t + 1009) ^ (3 : Int).toNat % 2147483647) < 2147483647 := m0 _ _ (by decide)
    refine ⟨_, rfl, _, rfl, _, _, rfl, rfl, _, _, rfl, rfl, .inl ⟨by omega, by omega⟩, ?_⟩
    have q3 : 0 ≤ ((z % 2147483563 + 41017 * t + 1009) ^ (3 : Int).toNat % 2147483647) * (t + 20021) ∧ ((z % 2147483563 + 41017 * t + 1009) ^ (3 : Int).toNat % 2147483647) * (t + 20021) ≤ 2147483647 * 8000100 := ⟨Int.mul_nonneg q2.1 (by omega), Int.mul_le_mul (by omega) (by omega) (by omega) (by omega)⟩
    refine ⟨_, rfl, _, _, rfl, rfl, .inr ⟨by omega, by omega⟩, _, rfl, _, _, rfl, rfl, .inr ⟨by omega, by omega⟩, _, _, rfl, rfl, _, _, rfl, rfl, ?_⟩
    rw [Int.mul_assoc 7 t t]
    refine ⟨_, _, rfl, rfl, ⟨by decide, by decide, by omega⟩, _, _, rfl, rfl, (by show (0 : Int) < _; decide), ?_⟩
    refine ⟨_, rfl, _, _, rfl, rfl, ⟨by decide, by decide⟩, _, rfl, _, _, rfl, rfl, hb0, ?_⟩
    exact hq (.int _) ⟨n.n + 1, n.μ⟩ _ S H2 (q _ (n.n + 1) (Int.emod_nonneg _ (by omega)) (Int.emod_lt_of_pos _ hb0) (by omega) (Nat.le_refl _)) (After.drawW hne dom (by rw [ha]; exact fun z => nomatch z) nS1 nS2 hb htb ⟨_, ha⟩ hmu h2 h2a hcs (by omega) (by omega) hg0) rfl
  -- the rest, from any cell
  obtain ⟨u, U, hU⟩ : ∃ u, PSs (cxOf (L2.CX P w) P w K mg base ["_law_pen_here", "_law_many", "_law_digit", "_law_at", "_law_cell", "_law_whole", "_law_mixed"] "_law_draw" (defScope sDraw) f cdv A outer s H E) ((defBody sDraw).drop 5) u ∧
      ∀ (z : Int) (H2 : Hp), H2 a = some (.lst [.ref ca, .int (t + 1), .int g]) → (∀ x o, x ≠ a → H x = some o → H2 x = some o) → u { nx := fun _ H' => Q .non H', rt := Q } [some (.ref a), some (.int b), none, some (.int t), some (.int z), none, none] H2 := by
    refine ⟨_, pss_cons (ps_if (PW.pt (pw_and (pt_cmpR op_lt (pv 3) (pe_callB call_len_seq (by rfl) ml PySem.boot_len (pa_cons (pe_ix ix_list (pv 0) pe_int (fun _ _ => rfl)) pa_nil)) (nomark _))
        (pw_and1 (pt_cmpR op_ge (pe_callB call_abs (by rfl) mb PyProof.Rows.boot_abs (pa_cons (pv 4) pa_nil)) (pe_op op_pow pe_int pe_int) (nomark _)))))
      (pss_cons (ps_set (i := 5) nd rfl (.inl rfl) (pe_op op_add (pe_op op_mul pe_int (pe_callB call_abs (by rfl) mb PyProof.Rows.boot_abs (pa_cons (pv 4) pa_nil))) (pe_callTy call_int1 (by rfl) mi PyProof.Rows.boot_int (pa_cons (pe_cmpR op_lt (pv 4) pe_int (nomark _)) pa_nil))))
      (pss_cons (ps_asg (pe_op op_fdiv (pv 5) (pv 1)) (pg_sub (pv 0) pe_int set_list))
      (pss_one (ps_ret (pe_op op_mod (pv 5) (pv 1)))))) pss_nil) U2, fun z H2 h2a h2 => ?_⟩
    have h2b : SqL K H2 ca (cs.map V.int) := SqL.of (h2 ca _ (Ne.symm hne) hb)
    refine ⟨_, rfl, rd_ix 0 rfl h2a rfl ⟨ca, _, rfl, .inl h2b, _, _, rfl, rfl, _, rfl, ite2 (fun _ => ?_) (fun _ => iteF (hU2 z H2 h2a h2))⟩⟩
    refine ⟨_, rfl, z, rfl, _, _, rfl, rfl, ⟨by decide, by decide, by decide⟩, _, _, rfl, rfl, _, rfl, ite2 (fun hc => ?_) (fun _ => hU2 z H2 h2a h2)⟩
    have hc' := of_decide_eq_true hc
    -- a great cell
    refine ⟨_, rfl, z, rfl, _, _, rfl, rfl, .inl ⟨by decide, by decide⟩, ?_⟩
    refine ⟨_, rfl, _, _, rfl, rfl, .inr ⟨_, rfl, _, _, rfl, rfl, ?_⟩⟩
    have hgg : 0 ≤ 2 * (if z < 0 then -z else z) + (if decide (z < 0) = true then 1 else 0) := by
      have h1 : (0 : Int) ≤ if decide (z < 0) = true then 1 else 0 := by split <;> omega
      have h2 : (0 : Int) ≤ if z < 0 then -z else z := by split <;> omega
      omega
    refine ⟨_, rfl, _, rfl, _, _, rfl, rfl, ⟨hb0, hb1⟩, wr_ix 2 rfl h2a (Nat.lt_succ_self _) ⟨_, rfl, _, rfl, _, _, rfl, rfl, hb0, ?_⟩⟩
    exact hq (.int _) ⟨n.n + 1, n.μ⟩ _ S _ (q _ (n.n + 1) (Int.emod_nonneg _ (by omega)) (Int.emod_lt_of_pos _ hb0) (by omega) (Nat.le_refl _)) (After.drawW hne dom (by rw [ha]; exact fun z => nomatch z) nS1 nS2 hb htb ⟨_, ha⟩ hmu (fun x o hx e => by rw [upd_ne hx]; exact h2 x o hx e) upd_same hcs (by omega) (by omega) (Int.ediv_nonneg hgg (by omega))) rfl
  refine ⟨_, pss_cons (ps_if (pt_cmpR op_gt (pe_ix ix_list (pv 0) pe_int (fun _ _ => rfl)) pe_int (nomark _))
      (pss_cons (ps_set (i := 2) nd rfl (.inl rfl) (pe_op op_mod (pe_ix ix_list (pv 0) pe_int (fun _ _ => rfl)) (pv 1)))
      (pss_cons (ps_asg (pe_op op_fdiv (pe_ix ix_list (pv 0) pe_int (fun _ _ => rfl)) (pv 1)) (pg_sub (pv 0) pe_int set_list))
      (pss_one (ps_ret (pv 2))))) pss_nil)
    (pss_cons (ps_set (i := 3) nd rfl (.inl rfl) (pe_ix ix_list (pv 0) pe_int (fun _ _ => rfl)))
    (pss_cons (ps_asg (pe_op op_add (pv 3) pe_int) (pg_sub (pv 0) pe_int set_list))
    (pss_cons (ps_set (i := 4) nd rfl (.inl rfl) (pe_op op_add (pe_op op_mul pe_int (pv 3)) pe_int))
    (pss_cons (ps_if (pt_cmpR (op_neD (u64 hr)) (pe_ix ix_list (pv 0) pe_int (fun _ _ => rfl)) (pe_lst pa_nil) (nomark _))
      (pss_one (ps_set (i := 4) nd rfl (.inl rfl) (pe_ix ix_list (pe_ix ix_list (pv 0) pe_int (fun _ _ => rfl)) (pe_op op_mod (pv 3) (pe_callB call_len_seq (by rfl) ml PySem.boot_len (pa_cons (pe_ix ix_list (pv 0) pe_int (fun _ _ => rfl)) pa_nil))) (fun _ _ => rfl)))) pss_nil) U)))), ?_⟩
  refine rd_ix 2 rfl ha rfl ⟨_, _, rfl, rfl, _, rfl, ite2 (fun hc => ?_) (fun hc => ?_)⟩
  · -- a digit of the rest
    refine rd_ix 2 rfl ha rfl ⟨_, rfl, _, _, rfl, rfl, hb0, rd_ix 2 rfl ha rfl ⟨_, rfl, _, _, rfl, rfl, ⟨hb0, hb1⟩, wr_ix 2 rfl ha (Nat.lt_succ_self _) ⟨_, rfl, ?_⟩⟩⟩
    exact hq (.int (g % b)) ⟨n.n, n.μ⟩ _ S _ (q _ n.n (Int.emod_nonneg _ (by omega)) (Int.emod_lt_of_pos _ hb0) (Nat.le_refl _) (by omega)) (After.drawW hne dom (by rw [ha]; exact fun z => nomatch z) nS1 nS2 hb htb ⟨_, ha⟩ hmu (fun x o hx e => by rw [upd_ne hx]; exact e) upd_same hcs ht htn (Int.ediv_nonneg hg0 (by omega))) rfl
  · refine rd_ix 1 rfl ha rfl ⟨_, rfl, _, _, rfl, rfl, wr_ix 1 rfl ha (by show 1 < 3; omega) ?_⟩
    refine ⟨_, rfl, _, _, rfl, rfl, .inr ⟨by omega, by omega⟩, _, _, rfl, rfl, ?_⟩
    have ha1 : upd H a (.lst [.ref ca, .int (t + 1), .int g]) a = some (.lst [.ref ca, .int (t + 1), .int g]) := upd_same
    have h1 : ∀ x o, x ≠ a → H x = some o → upd H a (.lst [.ref ca, .int (t + 1), .int g]) x = some o := fun x o hx e => by rw [upd_ne hx]; exact e
    refine rd_ix 0 rfl ha1 rfl ⟨Nat.zero_le _, fun p hp => ?_⟩
    have ap : a ≠ p := ne_of_none ha1 hp
    have ha2 : upd (upd H a (.lst [.ref ca, .int (t + 1), .int g])) p (.lst []) a = some (.lst [.ref ca, .int (t + 1), .int g]) := by rw [upd_ne ap]; exact ha1
    have h2 : ∀ x o, x ≠ a → H x = some o → upd (upd H a (.lst [.ref ca, .int (t + 1), .int g])) p (.lst []) x = some o := fun x o hx e => by
      have e1 := h1 x o hx e
      rw [upd_ne (ne_of_none e1 hp)]
      exact e1
    have hb2 := h2 ca _ (Ne.symm hne) hb
    refine ⟨.list (cs.map PyData.int), .list [], .lst (SqL.of hb2) (dp_ints cs), .lst (SqL.of upd_same) .nil, shaped_ints cs, by decide +kernel, _, rfl, ite2 (fun he => ?_) (fun he => hU _ _ ha2 h2)⟩
    rw [eqv_nil] at he
    have hpos : 0 < cs.length := by
      cases cs with
      | nil => simp at he
      | cons _ _ => exact Nat.zero_lt_succ _
    have hm0 := Int.emod_nonneg t (show (cs.length : Int) ≠ 0 by omega)
    have hm1 := Int.emod_lt_of_pos t (show (0 : Int) < cs.length by omega)
    obtain ⟨m, hm⟩ : ∃ m : Nat, t % (cs.length : Int) = m := ⟨(t % (cs.length : Int)).toNat, by omega⟩
    have hml : m < cs.length := by omega
    refine rd_ix 0 rfl ha2 rfl ⟨_, rfl, rd_ix 0 rfl ha2 rfl ⟨ca, _, rfl, .inl (SqL.of hb2), _, _, rfl, rfl, by rw [List.length_map]; omega, ca, _, _, .int cs[m], rfl, rfl, SqL.of hb2, ?_, hU _ _ ha2 h2⟩⟩
    rw [List.length_map, hm]
    exact atI_nat (by rw [List.getElem?_map, List.getElem?_eq_getElem hml]; rfl)
set_option maxHeartbeats 0 in
theorem ok_l_pen {f : Addr} {fd : FuncData} {T : List (Addr × Str)} {mgl : Str → Option Value} {bb : Bool} (F : Fun K "_law_pen" "_law_pen" (topS 37) f fd) (ml : mg "list" = none) : FnG P w K mg base 1 f fd ["_law_script"] (spFeedK ((penG.wt T mgl).wc bb) K) := by
  have sc : FnScope ["_law_script"] ["_law_script"] (defScope (topS 37)) := ⟨rfl, rfl, rfl, by decide +kernel, rfl, by decide +kernel, by decide +kernel⟩
  refine FnG.of_body F sc (fun vs H Q E ⟨a, ns, e, _⟩ => by rw [e]; rfl) fun cdv A outer s H vs Q E hg hr ⟨a, ns, e, hS, hl, q⟩ => ?_
  subst e
  refine ⟨_, pss_one (ps_ret (pe_lst (pa_cons (pe_callTy call_list_of (by rfl) ml PyProof.Rows.boot_list (pa_cons (pe_slice sl_list (pv 0) po_none (po_some pe_int)) pa_nil)) (pa_cons pe_int (pa_cons pe_int pa_nil))))), ?_⟩
  refine ⟨.ref a, rfl, ?_⟩
  have hc : cutV (ns.map V.int) none (some 63) = ns.map V.int := by
    unfold cutV
    rw [HT.sIx_none, show (63 : Int) = ((63 : Nat) : Int) from rfl, HT.sIx_nat, List.length_map, Nat.min_eq_right hl, Nat.sub_zero, List.drop_zero, List.take_of_length_le (by rw [List.length_map]; exact Nat.le_refl _)]
  refine ⟨63, rfl, a, _, rfl, hS, fun b hb => ⟨b, _, rfl, .inl (SqL.of upd_same), fun l hl2 => ⟨(by show 3 ≤ sizeLine; rw [sizeLine_eq]; decide), fun p hp => ?_⟩⟩⟩
  rw [hc] at hl2 hp ⊢
  have lp : l ≠ p := fun z => by rw [z, upd_same] at hp; cases hp
  have sm : ∀ x o, H x = some o → upd (upd (upd H b (.lst (ns.map V.int))) l (.lst (ns.map V.int))) p (.lst [.ref l, .int 0, .int 0]) x = some o := fun x o e => by
    have e1 : upd H b (.lst (ns.map V.int)) x = some o := by rw [upd_ne (ne_of_none e hb)]; exact e
    have e2 : upd (upd H b (.lst (ns.map V.int))) l (.lst (ns.map V.int)) x = some o := by rw [upd_ne (ne_of_none e1 hl2)]; exact e1
    rw [upd_ne (ne_of_none e2 hp)]
    exact e2
  exact q _ p l ⟨Ne.symm lp, ns, 0, 0, upd_same, (by rw [upd_ne lp]; exact upd_same), hl, Int.le_refl _, Int.le_refl _, Int.le_refl _⟩ fun P ps e => sm P _ e
end
abbrev s_is_integer : Stmt := topS 7
abbrev s_is_between : Stmt := topS 8
abbrev s_is_word : Stmt := topS 9
abbrev s_is_value : Stmt := topS 10
abbrev s_pairs_of : Stmt := topS 11
abbrev s_overlaid : Stmt := topS 12
abbrev s_applied : Stmt := topS 13
abbrev s_is_command : Stmt := topS 21
abbrev s_is_write : Stmt := topS 22
abbrev s_entry_of : Stmt := topS 23
abbrev s_first_invalid : Stmt := topS 24
abbrev s_need_script : Stmt := topS 25
abbrev s_rule_of_writes : Stmt := topS 27
abbrev s_rule_of_two : Stmt := topS 28
abbrev s_rule_of_three : Stmt := topS 29
abbrev s_rule_from : Stmt := topS 30
abbrev s_rule_of : Stmt := topS 31
abbrev s_nearest_place : Stmt := topS 33
abbrev s_done : Stmt := topS 34
abbrev s_outcome : Stmt := topS 35
abbrev s_l_pen : Stmt := topS 37
abbrev s_l_draw : Stmt := topS 38
abbrev s_l_pick : Stmt := topS 39
abbrev s_l_words : Stmt := topS 40
abbrev s_l_value : Stmt := topS 41
abbrev s_l_command : Stmt := topS 42
abbrev s_l_commands : Stmt := topS 43
abbrev s_l_store : Stmt := topS 44
abbrev s_l_state : Stmt := topS 45
abbrev s_l_do : Stmt := topS 46
abbrev s_l_run : Stmt := topS 47
abbrev s_l_opened : Stmt := topS 48
abbrev s_l_shut : Stmt := topS 49
abbrev s_l_sides : Stmt := topS 50
abbrev s_l_write : Stmt := topS 51
abbrev s_l_alike : Stmt := topS 52
abbrev s_law : Stmt := topS 53
abbrev sc_is_integer_N : List Str := ["value"]
theorem sc_is_integer : FnScope sc_is_integer_N ["value"] (defScope s_is_integer) := ⟨rfl, rfl, rfl, by decide +kernel, rfl, by decide +kernel, by decide +kernel⟩
abbrev sc_is_between_N : List Str := ["value", "least", "most"]
theorem sc_is_between : FnScope sc_is_between_N ["value", "least", "most"] (defScope s_is_between) := ⟨rfl, rfl, rfl, by decide +kernel, rfl, by decide +kernel, by decide +kernel⟩
abbrev sc_is_word_N : List Str := ["value", "sign"]
theorem sc_is_word : FnScope sc_is_word_N ["value"] (defScope s_is_word) := ⟨rfl, rfl, rfl, by decide +kernel, rfl, by decide +kernel, by decide +kernel⟩
abbrev sc_is_value_N : List Str := ["value"]
theorem sc_is_value : FnScope sc_is_value_N ["value"] (defScope s_is_value) := ⟨rfl, rfl, rfl, by decide +kernel, rfl, by decide +kernel, by decide +kernel⟩
abbrev sc_pairs_of_N : List Str := ["entries", "key"]
theorem sc_pairs_of : FnScope sc_pairs_of_N ["entries"] (defScope s_pairs_of) := ⟨rfl, rfl, rfl, by decide +kernel, rfl, by decide +kernel, by decide +kernel⟩
abbrev sc_overlaid_N : List Str := ["lower", "upper"]
theorem sc_overlaid : FnScope sc_overlaid_N ["lower", "upper"] (defScope s_overlaid) := ⟨rfl, rfl, rfl, by decide +kernel, rfl, by decide +kernel, by decide +kernel⟩
abbrev sc_applied_N : List Str := ["store", "change", "later", "key"]
theorem sc_applied : FnScope sc_applied_N ["store", "change"] (defScope s_applied) := ⟨rfl, rfl, rfl, by decide +kernel, rfl, by decide +kernel, by decide +kernel⟩
abbrev sc_is_command_N : List Str := ["value"]
theorem sc_is_command : FnScope sc_is_command_N ["value"] (defScope s_is_command) := ⟨rfl, rfl, rfl, by decide +kernel, rfl, by decide +kernel, by decide +kernel⟩
abbrev sc_is_write_N : List Str := ["command"]
theorem sc_is_write : FnScope sc_is_write_N ["command"] (defScope s_is_write) := ⟨rfl, rfl, rfl, by decide +kernel, rfl, by decide +kernel, by decide +kernel⟩
abbrev sc_entry_of_N : List Str := ["command"]
theorem sc_entry_of : FnScope sc_entry_of_N ["command"] (defScope s_entry_of) := ⟨rfl, rfl, rfl, by decide +kernel, rfl, by decide +kernel, by decide +kernel⟩
abbrev sc_first_invalid_N : List Str := ["value", "index", "command"]
theorem sc_first_invalid : FnScope sc_first_invalid_N ["value"] (defScope s_first_invalid) := ⟨rfl, rfl, rfl, by decide +kernel, rfl, by decide +kernel, by decide +kernel⟩
abbrev sc_need_script_N : List Str := ["value", "wrong"]
theorem sc_need_script : FnScope sc_need_script_N ["value"] (defScope s_need_script) := ⟨rfl, rfl, rfl, by decide +kernel, rfl, by decide +kernel, by decide +kernel⟩
abbrev sc_rule_of_writes_N : List Str := ["first", "second", "right"]
theorem sc_rule_of_writes : FnScope sc_rule_of_writes_N ["first", "second", "right"] (defScope s_rule_of_writes) := ⟨rfl, rfl, rfl, by decide +kernel, rfl, by decide +kernel, by decide +kernel⟩
abbrev sc_rule_of_two_N : List Str := ["left", "right", "first", "second", "number", "due"]
theorem sc_rule_of_two : FnScope sc_rule_of_two_N ["left", "right"] (defScope s_rule_of_two) := ⟨rfl, rfl, rfl, by decide +kernel, rfl, by decide +kernel, by decide +kernel⟩
abbrev sc_rule_of_three_N : List Str := ["left", "right", "first", "second", "third"]
theorem sc_rule_of_three : FnScope sc_rule_of_three_N ["left", "right"] (defScope s_rule_of_three) := ⟨rfl, rfl, rfl, by decide +kernel, rfl, by decide +kernel, by decide +kernel⟩
abbrev sc_rule_from_N : List Str := ["left", "right"]
theorem sc_rule_from : FnScope sc_rule_from_N ["left", "right"] (defScope s_rule_from) := ⟨rfl, rfl, rfl, by decide +kernel, rfl, by decide +kernel, by decide +kernel⟩
abbrev sc_rule_of_N : List Str := ["before", "after", "found", "number"]
theorem sc_rule_of : FnScope sc_rule_of_N ["before", "after"] (defScope s_rule_of) := ⟨rfl, rfl, rfl, by decide +kernel, rfl, by decide +kernel, by decide +kernel⟩
abbrev sc_nearest_place_N : List Str := ["pile", "name", "place"]
theorem sc_nearest_place : FnScope sc_nearest_place_N ["pile", "name"] (defScope s_nearest_place) := ⟨rfl, rfl, rfl, by decide +kernel, rfl, by decide +kernel, by decide +kernel⟩
abbrev sc_done_N : List Str := ["state", "command", "store", "pile", "place"]
theorem sc_done : FnScope sc_done_N ["state", "command"] (defScope s_done) := ⟨rfl, rfl, rfl, by decide +kernel, rfl, by decide +kernel, by decide +kernel⟩
abbrev sc_outcome_N : List Str := ["state", "commands", "index", "command"]
theorem sc_outcome : FnScope sc_outcome_N ["state", "commands"] (defScope s_outcome) := ⟨rfl, rfl, rfl, by decide +kernel, rfl, by decide +kernel, by decide +kernel⟩
abbrev sc_l_pick_N : List Str := ["_law_pen_here", "_law_some"]
theorem sc_l_pick : FnScope sc_l_pick_N ["_law_pen_here", "_law_some"] (defScope s_l_pick) := ⟨rfl, rfl, rfl, by decide +kernel, rfl, by decide +kernel, by decide +kernel⟩
abbrev sc_l_words_N : List Str := ["_law_pen_here", "_law_many", "_law_letters", "_law_way", "_law_start", "_law_k", "_law_found", "_law_tail", "_law_j"]
theorem sc_l_words : FnScope sc_l_words_N ["_law_pen_here", "_law_many"] (defScope s_l_words) := ⟨rfl, rfl, rfl, by decide +kernel, rfl, by decide +kernel, by decide +kernel⟩
abbrev sc_l_value_N : List Str := ["_law_pen_here", "_law_way", "_law_near"]
theorem sc_l_value : FnScope sc_l_value_N ["_law_pen_here"] (defScope s_l_value) := ⟨rfl, rfl, rfl, by decide +kernel, rfl, by decide +kernel, by decide +kernel⟩
abbrev sc_l_command_N : List Str := ["_law_pen_here", "_law_words_here", "_law_keys", "_law_way"]
theorem sc_l_command : FnScope sc_l_command_N ["_law_pen_here", "_law_words_here", "_law_keys"] (defScope s_l_command) := ⟨rfl, rfl, rfl, by decide +kernel, rfl, by decide +kernel, by decide +kernel⟩
abbrev sc_l_commands_N : List Str := ["_law_pen_here", "_law_words_here", "_law_keys", "_law_most", "_law_size", "_law_k"]
theorem sc_l_commands : FnScope sc_l_commands_N ["_law_pen_here", "_law_words_here", "_law_keys", "_law_most"] (defScope s_l_commands) := ⟨rfl, rfl, rfl, by decide +kernel, rfl, by decide +kernel, by decide +kernel⟩
abbrev sc_l_store_N : List Str := ["_law_pen_here", "_law_keys", "_law_found", "_law_key"]
theorem sc_l_store : FnScope sc_l_store_N ["_law_pen_here", "_law_keys"] (defScope s_l_store) := ⟨rfl, rfl, rfl, by decide +kernel, rfl, by decide +kernel, by decide +kernel⟩
abbrev sc_l_state_N : List Str := ["_law_pen_here", "_law_words_here", "_law_keys", "_law_most", "_law_size", "_law_pile", "_law_k"]
theorem sc_l_state : FnScope sc_l_state_N ["_law_pen_here", "_law_words_here", "_law_keys", "_law_most"] (defScope s_l_state) := ⟨rfl, rfl, rfl, by decide +kernel, rfl, by decide +kernel, by decide +kernel⟩
abbrev sc_l_do_N : List Str := ["_law_house", "_law_deed", "_law_store_here", "_law_pile", "_law_later", "_law_places", "_law_at", "_law_pair"]
theorem sc_l_do : FnScope sc_l_do_N ["_law_house", "_law_deed"] (defScope s_l_do) := ⟨rfl, rfl, rfl, by decide +kernel, rfl, by decide +kernel, by decide +kernel⟩
abbrev sc_l_run_N : List Str := ["_law_house", "_law_deeds", "_law_deed"]
theorem sc_l_run : FnScope sc_l_run_N ["_law_house", "_law_deeds"] (defScope s_l_run) := ⟨rfl, rfl, rfl, by decide +kernel, rfl, by decide +kernel, by decide +kernel⟩
abbrev sc_l_opened_N : List Str := ["_law_house", "_law_mark"]
theorem sc_l_opened : FnScope sc_l_opened_N ["_law_house"] (defScope s_l_opened) := ⟨rfl, rfl, rfl, by decide +kernel, rfl, by decide +kernel, by decide +kernel⟩
abbrev sc_l_shut_N : List Str := ["_law_house", "_law_pile", "_law_mark"]
theorem sc_l_shut : FnScope sc_l_shut_N ["_law_house"] (defScope s_l_shut) := ⟨rfl, rfl, rfl, by decide +kernel, rfl, by decide +kernel, by decide +kernel⟩
abbrev sc_l_sides_N : List Str := ["_law_number", "_law_a", "_law_b", "_law_one", "_law_other", "_law_mark", "_law_back", "_law_keep", "_law_left", "_law_right"]
theorem sc_l_sides : FnScope sc_l_sides_N ["_law_number", "_law_a", "_law_b", "_law_one", "_law_other"] (defScope s_l_sides) := ⟨rfl, rfl, rfl, by decide +kernel, rfl, by decide +kernel, by decide +kernel⟩
abbrev sc_l_write_N : List Str := ["_law_pen_here", "_law_keys", "_law_key"]
theorem sc_l_write : FnScope sc_l_write_N ["_law_pen_here", "_law_keys"] (defScope s_l_write) := ⟨rfl, rfl, rfl, by decide +kernel, rfl, by decide +kernel, by decide +kernel⟩
abbrev sc_l_alike_N : List Str := ["_law_house", "_law_mine", "_law_yours", "_law_found", "_law_due"]
theorem sc_l_alike : FnScope sc_l_alike_N ["_law_house", "_law_mine", "_law_yours"] (defScope s_l_alike) := ⟨rfl, rfl, rfl, by decide +kernel, rfl, by decide +kernel, by decide +kernel⟩
abbrev sc_law_N : List Str := ["_law_script", "_law_pen_here", "_law_turn", "_law_words_here", "_law_keys", "_law_house", "_law_number", "_law_a", "_law_b", "_law_one", "_law_other", "_law_sides_here", "_law_head", "_law_tail", "_law_rest", "_law_start", "_law_mine", "_law_yours"]
theorem sc_law : FnScope sc_law_N ["_law_script"] (defScope s_law) := ⟨rfl, rfl, rfl, by decide +kernel, rfl, by decide +kernel, by decide +kernel⟩
set_option maxHeartbeats 0 in
structure Facts (K : PySem.W.Frag) (mg : Str → Option Value) where
  z_abs : mg "abs" = none
  z_all : mg "all" = none
  z_bool : mg "bool" = none
  z_dict : mg "dict" = none
  z_enumerate : mg "enumerate" = none
  z_int : mg "int" = none
  z_isinstance : mg "isinstance" = none
  z_len : mg "len" = none
  z_list : mg "list" = none
  z_min : mg "min" = none
  z_range : mg "range" = none
  z_sorted : mg "sorted" = none
  z_str : mg "str" = none
  z_tuple : mg "tuple" = none
  c_BACK : ∃ t, mg "BACK" = some (.str "back" t)
  c_DEL : ∃ t, mg "DEL" = some (.str "del" t)
  c_GREATEST_VALUE : ∃ t, mg "GREATEST_VALUE" = some (.int 1000000000000000000 t)
  c_KEEP : ∃ t, mg "KEEP" = some (.str "keep" t)
  c_LETTERS : ∃ t, mg "LETTERS" = some (.str "abcdefghijklmnopqrstuvwxyz" t)
  c_LONGEST_WORD : ∃ t, mg "LONGEST_WORD" = some (.int 8 t)
  c_MARK : ∃ t, mg "MARK" = some (.str "mark" t)
  c_MOST_COMMANDS : ∃ t, mg "MOST_COMMANDS" = some (.int 60 t)
  c_SET : ∃ t, mg "SET" = some (.str "set" t)
  f_is_integer : Addr
  d_is_integer : FuncData
  F_is_integer : Fun K "is_integer" "is_integer" s_is_integer f_is_integer d_is_integer
  g_is_integer : mg "is_integer" = some (.ref f_is_integer)
  B_is_integer : Binds K d_is_integer ["value"] []
  f_is_between : Addr
  d_is_between : FuncData
  F_is_between : Fun K "is_between" "is_between" s_is_between f_is_between d_is_between
  g_is_between : mg "is_between" = some (.ref f_is_between)
  B_is_between : Binds K d_is_between ["value", "least", "most"] []
  f_is_word : Addr
  d_is_word : FuncData
  F_is_word : Fun K "is_word" "is_word" s_is_word f_is_word d_is_word
  g_is_word : mg "is_word" = some (.ref f_is_word)
  B_is_word : Binds K d_is_word ["value"] []
  f_is_value : Addr
  d_is_value : FuncData
  F_is_value : Fun K "is_value" "is_value" s_is_value f_is_value d_is_value
  g_is_value : mg "is_value" = some (.ref f_is_value)
  B_is_value : Binds K d_is_value ["value"] []
  f_pairs_of : Addr
  d_pairs_of : FuncData
  F_pairs_of : Fun K "pairs_of" "pairs_of" s_pairs_of f_pairs_of d_pairs_of
  g_pairs_of : mg "pairs_of" = some (.ref f_pairs_of)
  B_pairs_of : Binds K d_pairs_of ["entries"] []
  f_overlaid : Addr
  d_overlaid : FuncData
  F_overlaid : Fun K "overlaid" "overlaid" s_overlaid f_overlaid d_overlaid
  g_overlaid : mg "overlaid" = some (.ref f_overlaid)
  B_overlaid : Binds K d_overlaid ["lower", "upper"] []
  f_applied : Addr
  d_applied : FuncData
  F_applied : Fun K "applied" "applied" s_applied f_applied d_applied
  g_applied : mg "applied" = some (.ref f_applied)
  B_applied : Binds K d_applied ["store", "change"] []
  f_is_command : Addr
  d_is_command : FuncData
  F_is_command : Fun K "is_command" "is_command" s_is_command f_is_command d_is_command
  g_is_command : mg "is_command" = some (.ref f_is_command)
  B_is_command : Binds K d_is_command ["value"] []
  f_is_write : Addr
  d_is_write : FuncData
  F_is_write : Fun K "is_write" "is_write" s_is_write f_is_write d_is_write
  g_is_write : mg "is_write" = some (.ref f_is_write)
  B_is_write : Binds K d_is_write ["command"] []
  f_entry_of : Addr
  d_entry_of : FuncData
  F_entry_of : Fun K "entry_of" "entry_of" s_entry_of f_entry_of d_entry_of
  g_entry_of : mg "entry_of" = some (.ref f_entry_of)
  B_entry_of : Binds K d_entry_of ["command"] []
  f_first_invalid : Addr
  d_first_invalid : FuncData
  F_first_invalid : Fun K "first_invalid" "first_invalid" s_first_invalid f_first_invalid d_first_invalid
  g_first_invalid : mg "first_invalid" = some (.ref f_first_invalid)
  B_first_invalid : Binds K d_first_invalid ["value"] []
  f_need_script : Addr
  d_need_script : FuncData
  F_need_script : Fun K "need_script" "need_script" s_need_script f_need_script d_need_script
  g_need_script : mg "need_script" = some (.ref f_need_script)
  B_need_script : Binds K d_need_script ["value"] []
  f_rule_of_writes : Addr
  d_rule_of_writes : FuncData
  F_rule_of_writes : Fun K "rule_of_writes" "rule_of_writes" s_rule_of_writes f_rule_of_writes d_rule_of_writes
  g_rule_of_writes : mg "rule_of_writes" = some (.ref f_rule_of_writes)
  B_rule_of_writes : Binds K d_rule_of_writes ["first", "second", "right"] []
  f_rule_of_two : Addr
  d_rule_of_two : FuncData
  F_rule_of_two : Fun K "rule_of_two" "rule_of_two" s_rule_of_two f_rule_of_two d_rule_of_two
  g_rule_of_two : mg "rule_of_two" = some (.ref f_rule_of_two)
  B_rule_of_two : Binds K d_rule_of_two ["left", "right"] []
  f_rule_of_three : Addr
  d_rule_of_three : FuncData
  F_rule_of_three : Fun K "rule_of_three" "rule_of_three" s_rule_of_three f_rule_of_three d_rule_of_three
  g_rule_of_three : mg "rule_of_three" = some (.ref f_rule_of_three)
  B_rule_of_three : Binds K d_rule_of_three ["left", "right"] []
  f_rule_from : Addr
  d_rule_from : FuncData
  F_rule_from : Fun K "rule_from" "rule_from" s_rule_from f_rule_from d_rule_from
  g_rule_from : mg "rule_from" = some (.ref f_rule_from)
  B_rule_from : Binds K d_rule_from ["left", "right"] []
  f_rule_of : Addr
  d_rule_of : FuncData
  F_rule_of : Fun K "rule_of" "rule_of" s_rule_of f_rule_of d_rule_of
  g_rule_of : mg "rule_of" = some (.ref f_rule_of)
  B_rule_of : Binds K d_rule_of ["before", "after"] []
  f_nearest_place : Addr
  d_nearest_place : FuncData
  F_nearest_place : Fun K "nearest_place" "nearest_place" s_nearest_place f_nearest_place d_nearest_place
  g_nearest_place : mg "nearest_place" = some (.ref f_nearest_place)
  B_nearest_place : Binds K d_nearest_place ["pile", "name"] []
  f_done : Addr
  d_done : FuncData
  F_done : Fun K "done" "done" s_done f_done d_done
  g_done : mg "done" = some (.ref f_done)
  B_done : Binds K d_done ["state", "command"] []
  f_outcome : Addr
  d_outcome : FuncData
  F_outcome : Fun K "outcome" "outcome" s_outcome f_outcome d_outcome
  g_outcome : mg "outcome" = some (.ref f_outcome)
  B_outcome : Binds K d_outcome ["state", "commands"] []
  f_l_pen : Addr
  d_l_pen : FuncData
  F_l_pen : Fun K "_law_pen" "_law_pen" s_l_pen f_l_pen d_l_pen
  g_l_pen : mg "_law_pen" = some (.ref f_l_pen)
  B_l_pen : Binds K d_l_pen ["_law_script"] []
  f_l_draw : Addr
  d_l_draw : FuncData
  F_l_draw : Fun K "_law_draw" "_law_draw" s_l_draw f_l_draw d_l_draw
  g_l_draw : mg "_law_draw" = some (.ref f_l_draw)
  B_l_draw : Binds K d_l_draw ["_law_pen_here", "_law_many"] []
  f_l_pick : Addr
  d_l_pick : FuncData
  F_l_pick : Fun K "_law_pick" "_law_pick" s_l_pick f_l_pick d_l_pick
  g_l_pick : mg "_law_pick" = some (.ref f_l_pick)
  B_l_pick : Binds K d_l_pick ["_law_pen_here", "_law_some"] []
  f_l_words : Addr
  d_l_words : FuncData
  F_l_words : Fun K "_law_words" "_law_words" s_l_words f_l_words d_l_words
  g_l_words : mg "_law_words" = some (.ref f_l_words)
  B_l_words : Binds K d_l_words ["_law_pen_here", "_law_many"] []
  f_l_value : Addr
  d_l_value : FuncData
  F_l_value : Fun K "_law_value" "_law_value" s_l_value f_l_value d_l_value
  g_l_value : mg "_law_value" = some (.ref f_l_value)
  B_l_value : Binds K d_l_value ["_law_pen_here"] []
  f_l_command : Addr
  d_l_command : FuncData
  F_l_command : Fun K "_law_command" "_law_command" s_l_command f_l_command d_l_command
  g_l_command : mg "_law_command" = some (.ref f_l_command)
  B_l_command : Binds K d_l_command ["_law_pen_here", "_law_words_here", "_law_keys"] []
  f_l_commands : Addr
  d_l_commands : FuncData
  F_l_commands : Fun K "_law_commands" "_law_commands" s_l_commands f_l_commands d_l_commands
  g_l_commands : mg "_law_commands" = some (.ref f_l_commands)
  B_l_commands : Binds K d_l_commands ["_law_pen_here", "_law_words_here", "_law_keys", "_law_most"] []
  f_l_store : Addr
  d_l_store : FuncData
  F_l_store : Fun K "_law_store" "_law_store" s_l_store f_l_store d_l_store
  g_l_store : mg "_law_store" = some (.ref f_l_store)
  B_l_store : Binds K d_l_store ["_law_pen_here", "_law_keys"] []
  f_l_state : Addr
  d_l_state : FuncData
  F_l_state : Fun K "_law_state" "_law_state" s_l_state f_l_state d_l_state
  g_l_state : mg "_law_state" = some (.ref f_l_state)
  B_l_state : Binds K d_l_state ["_law_pen_here", "_law_words_here", "_law_keys", "_law_most"] []
  f_l_do : Addr
  d_l_do : FuncData
  F_l_do : Fun K "_law_do" "_law_do" s_l_do f_l_do d_l_do
  g_l_do : mg "_law_do" = some (.ref f_l_do)
  B_l_do : Binds K d_l_do ["_law_house", "_law_deed"] []
  f_l_run : Addr
  d_l_run : FuncData
  F_l_run : Fun K "_law_run" "_law_run" s_l_run f_l_run d_l_run
  g_l_run : mg "_law_run" = some (.ref f_l_run)
  B_l_run : Binds K d_l_run ["_law_house", "_law_deeds"] []
  f_l_opened : Addr
  d_l_opened : FuncData
  F_l_opened : Fun K "_law_opened" "_law_opened" s_l_opened f_l_opened d_l_opened
  g_l_opened : mg "_law_opened" = some (.ref f_l_opened)
  B_l_opened : Binds K d_l_opened ["_law_house"] []
  f_l_shut : Addr
  d_l_shut : FuncData
  F_l_shut : Fun K "_law_shut" "_law_shut" s_l_shut f_l_shut d_l_shut
  g_l_shut : mg "_law_shut" = some (.ref f_l_shut)
  B_l_shut : Binds K d_l_shut ["_law_house"] []
  f_l_sides : Addr
  d_l_sides : FuncData
  F_l_sides : Fun K "_law_sides" "_law_sides" s_l_sides f_l_sides d_l_sides
  g_l_sides : mg "_law_sides" = some (.ref f_l_sides)
  B_l_sides : Binds K d_l_sides ["_law_number", "_law_a", "_law_b", "_law_one", "_law_other"] []
  f_l_write : Addr
  d_l_write : FuncData
  F_l_write : Fun K "_law_write" "_law_write" s_l_write f_l_write d_l_write
  g_l_write : mg "_law_write" = some (.ref f_l_write)
  B_l_write : Binds K d_l_write ["_law_pen_here", "_law_keys"] []
  f_l_alike : Addr
  d_l_alike : FuncData
  F_l_alike : Fun K "_law_alike" "_law_alike" s_l_alike f_l_alike d_l_alike
  g_l_alike : mg "_law_alike" = some (.ref f_l_alike)
  B_l_alike : Binds K d_l_alike ["_law_house", "_law_mine", "_law_yours"] []
  f_law : Addr
  d_law : FuncData
  F_law : Fun K "law" "law" s_law f_law d_law
  g_law : mg "law" = some (.ref f_law)
  B_law : Binds K d_law ["_law_script"] []
abbrev Facts.tb {K : PySem.W.Frag} {mg : Str → Option Value} (T : Facts K mg) : List (Addr × Str) := []
section
variable {P : Program} {w : World} {K : PySem.W.Frag} {mg : Str → Option Value} {base : Heap} (T : Facts K mg)
include T
theorem ok_l_draw : FnG P w K mg base 1 T.f_l_draw T.d_l_draw ["_law_pen_here", "_law_many"] (spM ((penG.wt T.tb mg).wc false) K mg 2 drawM) := ok_draw T.F_l_draw T.z_len T.z_abs T.z_int
end
end Q31

namespace Q31
open PySem PySem.Spec L2 PL
section
variable {P : Program} {w : World} {K : PySem.W.Frag} {mg : Str → Option Value} {base : Heap} (T : Facts K mg)
include T
set_option maxHeartbeats 0 in
theorem ok_is_integer : FnG P w K mg base 1 T.f_is_integer T.d_is_integer ["value"] (spM ((penG.wt T.tb mg).wc false) K mg 1 m_is_integer) := by
  have nd := sc_is_integer.nd
  refine fn_okG (m := m_is_integer) (Sh := fun args => ∃ value : D, args = [.d value]) T.F_is_integer sc_is_integer (by decide) (fun args n P PX h => ?_) ?_
  · unfold m_is_integer at h; split at h
    all_goals first | exact ⟨_, rfl⟩ | exact False.elim h
  · rintro args ⟨value, rfl⟩ cdv A outer s H E Wx hg hr tk po
    show SG _ _ _ _ _ EnT (d_is_integer value)
    unfold d_is_integer
    exact (sg_retT (e_and (e_isi .int (T.z_isinstance) (T.z_int) (by decide +kernel) (e_nm 0)) (e_one (e_not (e_isi .bool (T.z_isinstance) (T.z_bool) (by decide +kernel) (e_nm 0))))) rfl (fun _ => rfl))
end
end Q31

namespace Q31
open PySem PySem.Spec L2 PL
section
variable {P : Program} {w : World} {K : PySem.W.Frag} {mg : Str → Option Value} {base : Heap} (T : Facts K mg)
include T
set_option maxHeartbeats 0 in
theorem ok_is_between : FnG P w K mg base 2 T.f_is_between T.d_is_between ["value", "least", "most"] (spM ((penG.wt T.tb mg).wc false) K mg 3 m_is_between) := by
  have nd := sc_is_between.nd
  refine fn_okG (m := m_is_between) (Sh := fun args => ∃ value : D, ∃ least : D, ∃ most : D, args = [.d value, .d least, .d most]) T.F_is_between sc_is_between (by decide) (fun args n P PX h => ?_) ?_
  · unfold m_is_between at h; split at h
    all_goals first | exact ⟨_, _, _, rfl⟩ | exact False.elim h
  · rintro args ⟨value, least, most, rfl⟩ cdv A outer s H E Wx hg hr tk po
    show SG _ _ _ _ _ EnT (d_is_between value least most)
    unfold d_is_between
    exact (sg_retT (e_and (e_call (ps := ["value"]) ⟨ok_is_integer T, T.g_is_integer, T.F_is_integer.kp⟩ hg (hr.mono (by decide)) tk T.B_is_integer (v_cons (e_nm 0) (v_nil))) (e_one (e_chain (cm_le) (cm_le) (e_nm 1) (e_nm 0) (e_nm 2)))) rfl (fun _ => rfl))
end
end Q31

namespace Q31
open PySem PySem.Spec L2 PL
section
variable {P : Program} {w : World} {K : PySem.W.Frag} {mg : Str → Option Value} {base : Heap} (T : Facts K mg)
include T
set_option maxHeartbeats 0 in
theorem ok_is_word : FnG P w K mg base 1 T.f_is_word T.d_is_word ["value"] (spM ((penG.wt T.tb mg).wc false) K mg 1 m_is_word) := by
  have nd := sc_is_word.nd
  refine fn_okG (m := m_is_word) (Sh := fun args => ∃ value : D, args = [.d value]) T.F_is_word sc_is_word (by decide) (fun args n P PX h => ?_) ?_
  · unfold m_is_word at h; split at h
    all_goals first | exact ⟨_, rfl⟩ | exact False.elim h
  · rintro args ⟨value, rfl⟩ cdv A outer s H E Wx hg hr tk po
    show SG _ _ _ _ _ EnT (d_is_word value)
    unfold d_is_word
    exact (sg_if ((tw_or (t_not (t_truth (e_isi .str (T.z_isinstance) (T.z_str) (by decide +kernel) (e_nm 0)))) (tw_or1 (t_not (t_chain (cm_le) (cm_le) (e_int) (e_lenI (T.z_len) (e_nm 0)) (e_gi T.c_LONGEST_WORD.choose_spec))))).t) rfl
    (sg_retP (d := (.bl false)) (e_bl) rfl rfl)
    (sg_push (sg_retT (e_all rfl (T.z_all) ((o_lcQ (own := [("sign", 1)]) (t := (.nm 1)) (f := chD) (mu := ret) (ee := (fun a ρ => ρ.set 1 (.d (chD a)))) (fun _ => rfl) (fun x ρ => setT_1 1 chD x ρ) rfl nd (w_strZ (e_nm 0)) (blkOk_by (own := [("sign", 1)]) (N := sc_is_word_N) (sc := defScope s_is_word) (by decide +kernel)) (fun _ _ _ _ _ => g_nm 1 nd) (fun _ _ _ _ _ => ts_nil) (fun _ _ _ _ _ => e_cmp (cm_inS) (e_nm 1) (e_gs T.c_LETTERS.choose_spec))).e)) rfl (fun _ => rfl))))
end
end Q31

namespace Q31
open PySem PySem.Spec L2 PL
section
variable {P : Program} {w : World} {K : PySem.W.Frag} {mg : Str → Option Value} {base : Heap} (T : Facts K mg)
include T
set_option maxHeartbeats 0 in
theorem ok_is_value : FnG P w K mg base 3 T.f_is_value T.d_is_value ["value"] (spM ((penG.wt T.tb mg).wc false) K mg 1 m_is_value) := by
  have nd := sc_is_value.nd
  refine fn_okG (m := m_is_value) (Sh := fun args => ∃ value : D, args = [.d value]) T.F_is_value sc_is_value (by decide) (fun args n P PX h => ?_) ?_
  · unfold m_is_value at h; split at h
    all_goals first | exact ⟨_, rfl⟩ | exact False.elim h
  · rintro args ⟨value, rfl⟩ cdv A outer s H E Wx hg hr tk po
    show SG _ _ _ _ _ EnT (d_is_value value)
    unfold d_is_value
    exact (sg_retT (e_call (ps := ["value", "least", "most"]) ⟨ok_is_between T, T.g_is_between, T.F_is_between.kp⟩ hg (hr.mono (by decide)) tk T.B_is_between (v_cons (e_nm 0) (v_cons (e_neg (e_gi T.c_GREATEST_VALUE.choose_spec)) (v_cons (e_gi T.c_GREATEST_VALUE.choose_spec) (v_nil))))) rfl (fun _ => rfl))
end
end Q31

namespace Q31
open PySem PySem.Spec L2 PL
section
variable {P : Program} {w : World} {K : PySem.W.Frag} {mg : Str → Option Value} {base : Heap} (T : Facts K mg)
include T
set_option maxHeartbeats 0 in
theorem ok_pairs_of : FnG P w K mg base 1 T.f_pairs_of T.d_pairs_of ["entries"] (spM ((penG.wt T.tb mg).wc false) K mg 1 m_pairs_of) := by
  have nd := sc_pairs_of.nd
  refine fn_okG (m := m_pairs_of) (Sh := fun args => ∃ entries : D, args = [.d entries]) T.F_pairs_of sc_pairs_of (by decide) (fun args n P PX h => ?_) ?_
  · unfold m_pairs_of at h; split at h
    all_goals first | exact ⟨_, rfl⟩ | exact False.elim h
  · rintro args ⟨entries, rfl⟩ cdv A outer s H E Wx hg hr tk po
    show SG _ _ _ _ _ EnT (d_pairs_of entries)
    unfold d_pairs_of
    exact (sg_retT (e_tuple (T.z_tuple) ((o_lcQ (own := [("key", 1)]) (t := (.nm 1)) (f := (fun y : D => y)) (mu := ret) (ee := (fun a ρ => ρ.set 1 (.d a))) seqT_map (fun x ρ => setT_1 1 (fun y : D => y) x ρ) rfl nd (w_seqZ ((o_sortS (T.z_sorted) ((o_listK rfl (T.z_list) (e_nm 0)).e)).e)) (blkOk_by (own := [("key", 1)]) (N := sc_pairs_of_N) (sc := defScope s_pairs_of) (by decide +kernel)) (fun _ _ _ _ _ => g_nm 1 nd) (fun _ _ _ _ _ => ts_nil) (fun _ _ _ _ _ => e_tupL (al_cons (e_nm 1) (al_cons (e_dget (u1 hr) (e_nm 0) (e_nm 1)) (al_nil))))).e)) rfl (fun _ => rfl))
end
end Q31

namespace Q31
open PySem PySem.Spec L2 PL
section
variable {P : Program} {w : World} {K : PySem.W.Frag} {mg : Str → Option Value} {base : Heap} (T : Facts K mg)
include T
set_option maxHeartbeats 0 in
theorem ok_overlaid : FnG P w K mg base 2 T.f_overlaid T.d_overlaid ["lower", "upper"] (spM ((penG.wt T.tb mg).wc false) K mg 2 m_overlaid) := by
  have nd := sc_overlaid.nd
  refine fn_okG (m := m_overlaid) (Sh := fun args => ∃ lower : D, ∃ upper : D, args = [.d lower, .d upper]) T.F_overlaid sc_overlaid (by decide) (fun args n P PX h => ?_) ?_
  · unfold m_overlaid at h; split at h
    all_goals first | exact ⟨_, _, rfl⟩ | exact False.elim h
  · rintro args ⟨lower, upper, rfl⟩ cdv A outer s H E Wx hg hr tk po
    show SG _ _ _ _ _ EnT (d_overlaid lower upper)
    unfold d_overlaid
    exact (sg_retT (e_call (ps := ["entries"]) ⟨ok_pairs_of T, T.g_pairs_of, T.F_pairs_of.kp⟩ hg (hr.mono (by decide)) tk T.B_pairs_of (v_cons ((k_over (f_dict 0 rfl (T.z_dict)) (f_dict 1 rfl (T.z_dict))).e) (v_nil))) rfl (fun _ => rfl))
end
end Q31

namespace Q31
open PySem PySem.Spec L2 PL
section
variable {P : Program} {w : World} {K : PySem.W.Frag} {mg : Str → Option Value} {base : Heap} (T : Facts K mg)
include T
set_option maxHeartbeats 0 in
theorem ok_applied : FnG P w K mg base 3 T.f_applied T.d_applied ["store", "change"] (spM ((penG.wt T.tb mg).wc false) K mg 2 m_applied) := by
  have nd := sc_applied.nd
  refine fn_okG (m := m_applied) (Sh := fun args => ∃ store : D, ∃ change : D, args = [.d store, .d change]) T.F_applied sc_applied (by decide) (fun args n P PX h => ?_) ?_
  · unfold m_applied at h; split at h
    all_goals first | exact ⟨_, _, rfl⟩ | exact False.elim h
  · rintro args ⟨store, change, rfl⟩ cdv A outer s H E Wx hg hr tk po
    show SG _ _ _ _ _ EnT (d_applied store change)
    unfold d_applied
    exact (sg_asg (f := .dic) (ρ' := fun later => [.d store, .d change, .d (.dic later), .un]) 2 4 ((k_dict rfl (T.z_dict) (e_call (ps := ["lower", "upper"]) ⟨ok_overlaid T, T.g_overlaid, T.F_overlaid.kp⟩ hg (hr.mono (by decide)) tk T.B_overlaid (v_cons (e_nm 0) (v_cons (e_nm 1) (v_nil))))).e) (g_nm 2 nd) rfl dic_inj rfl (by decide) (fun _ => rfl) (fun later => sg_retT (e_tuple (T.z_tuple) ((o_lcKQ (own := [("key", 3)]) (t := (.nm 3)) (mu := ret) (ee := (fun a ρ => ρ.set 3 (.d a))) 2 (fun x ρ => setT_1 3 (fun y : D => y) x ρ) rfl nd (blkOk_by (own := [("key", 3)]) (N := sc_applied_N) (sc := defScope s_applied) (by decide +kernel)) (fun _ _ _ _ _ => g_nm 3 nd) (fun _ _ _ _ _ => ts_one (t_cmp (cm_isnot) (e_dget (u1 hr) (e_nm 2) (e_nm 3)) (e_non))) (fun _ _ _ _ _ => e_tupL (al_cons (e_nm 3) (al_cons (e_dget (u1 hr) (e_nm 2) (e_nm 3)) (al_nil))))).e)) rfl (fun _ => rfl)))
end
end Q31

namespace Q31
open PySem PySem.Spec L2 PL
section
variable {P : Program} {w : World} {K : PySem.W.Frag} {mg : Str → Option Value} {base : Heap} (T : Facts K mg)
include T
set_option maxHeartbeats 0 in
theorem ok_is_command : FnG P w K mg base 4 T.f_is_command T.d_is_command ["value"] (spM ((penG.wt T.tb mg).wc false) K mg 1 m_is_command) := by
  have nd := sc_is_command.nd
  refine fn_okG (m := m_is_command) (Sh := fun args => ∃ value : D, args = [.d value]) T.F_is_command sc_is_command (by decide) (fun args n P PX h => ?_) ?_
  · unfold m_is_command at h; split at h
    all_goals first | exact ⟨_, rfl⟩ | exact False.elim h
  · rintro args ⟨value, rfl⟩ cdv A outer s H E Wx hg hr tk po
    show SG _ _ _ _ _ EnT (d_is_command value)
    unfold d_is_command
    exact (sg_if ((tw_or (t_not (t_truth (e_isi .tup (T.z_isinstance) (T.z_tuple) (by decide +kernel) (e_nm 0)))) (tw_or (t_cmp (cm_lt) (e_lenI (T.z_len) (e_nm 0)) (e_int)) (tw_or (t_not (t_truth (e_isi .str (T.z_isinstance) (T.z_str) (by decide +kernel) (e_ix (e_nm 0) (e_int))))) (tw_or1 (t_not (t_truth (e_call (ps := ["value"]) ⟨ok_is_word T, T.g_is_word, T.F_is_word.kp⟩ hg (hr.mono (by decide)) tk T.B_is_word (v_cons (e_ix (e_nm 0) (e_int)) (v_nil))))))))).t) rfl
    (sg_retP (d := (.bl false)) (e_bl) rfl rfl)
    (sg_push (sg_if (t_cmp (cm_eq (u64 hr)) (e_ix (e_nm 0) (e_int)) (e_gs T.c_SET.choose_spec)) rfl
    (sg_retT (e_and (e_cmp (cm_eqI (u64 hr)) (e_lenI (T.z_len) (e_nm 0)) (e_int)) (e_one (e_call (ps := ["value"]) ⟨ok_is_value T, T.g_is_value, T.F_is_value.kp⟩ hg (hr.mono (by decide)) tk T.B_is_value (v_cons (e_ix (e_nm 0) (e_int)) (v_nil))))) rfl (fun _ => rfl))
    (sg_push (sg_retT (e_and (e_cmp (cm_eqI (u64 hr)) (e_lenI (T.z_len) (e_nm 0)) (e_int)) (e_one (e_cmp (cm_in) (e_ix (e_nm 0) (e_int)) (e_tupL (al_cons (e_gs T.c_DEL.choose_spec) (al_cons (e_gs T.c_MARK.choose_spec) (al_cons (e_gs T.c_BACK.choose_spec) (al_cons (e_gs T.c_KEEP.choose_spec) (al_nil))))))))) rfl (fun _ => rfl))))))
end
end Q31

namespace Q31
open PySem PySem.Spec L2 PL
section
variable {P : Program} {w : World} {K : PySem.W.Frag} {mg : Str → Option Value} {base : Heap} (T : Facts K mg)
include T
set_option maxHeartbeats 0 in
theorem ok_is_write : FnG P w K mg base 1 T.f_is_write T.d_is_write ["command"] (spM ((penG.wt T.tb mg).wc false) K mg 1 m_is_write) := by
  have nd := sc_is_write.nd
  refine fn_okG (m := m_is_write) (Sh := fun args => ∃ command : D, args = [.d command]) T.F_is_write sc_is_write (by decide) (fun args n P PX h => ?_) ?_
  · unfold m_is_write at h; split at h
    all_goals first | exact ⟨_, rfl⟩ | exact False.elim h
  · rintro args ⟨command, rfl⟩ cdv A outer s H E Wx hg hr tk po
    show SG _ _ _ _ _ EnT (d_is_write command)
    unfold d_is_write
    exact (sg_retT (e_cmp (cm_in) (e_ix (e_nm 0) (e_int)) (e_tupL (al_cons (e_gs T.c_SET.choose_spec) (al_cons (e_gs T.c_DEL.choose_spec) (al_nil))))) rfl (fun _ => rfl))
end
end Q31

namespace Q31
open PySem PySem.Spec L2 PL
section
variable {P : Program} {w : World} {K : PySem.W.Frag} {mg : Str → Option Value} {base : Heap} (T : Facts K mg)
include T
set_option maxHeartbeats 0 in
theorem ok_entry_of : FnG P w K mg base 1 T.f_entry_of T.d_entry_of ["command"] (spM ((penG.wt T.tb mg).wc false) K mg 1 m_entry_of) := by
  have nd := sc_entry_of.nd
  refine fn_okG (m := m_entry_of) (Sh := fun args => ∃ command : D, args = [.d command]) T.F_entry_of sc_entry_of (by decide) (fun args n P PX h => ?_) ?_
  · unfold m_entry_of at h; split at h
    all_goals first | exact ⟨_, rfl⟩ | exact False.elim h
  · rintro args ⟨command, rfl⟩ cdv A outer s H E Wx hg hr tk po
    show SG _ _ _ _ _ EnT (d_entry_of command)
    unfold d_entry_of
    exact (sg_retT (e_if (t_cmp (cm_eq (u64 hr)) (e_ix (e_nm 0) (e_int)) (e_gs T.c_SET.choose_spec)) (e_ix (e_nm 0) (e_int)) (e_non)) rfl (fun _ => rfl))
end
end Q31

namespace Q31
open PySem PySem.Spec L2 PL
section
variable {P : Program} {w : World} {K : PySem.W.Frag} {mg : Str → Option Value} {base : Heap} (T : Facts K mg)
include T
set_option maxHeartbeats 0 in
theorem ok_first_invalid : FnG P w K mg base 5 T.f_first_invalid T.d_first_invalid ["value"] (spM ((penG.wt T.tb mg).wc false) K mg 1 m_first_invalid) := by
  have nd := sc_first_invalid.nd
  refine fn_okG (m := m_first_invalid) (Sh := fun args => ∃ value : D, args = [.d value]) T.F_first_invalid sc_first_invalid (by decide) (fun args n P PX h => ?_) ?_
  · unfold m_first_invalid at h; split at h
    all_goals first | exact ⟨_, rfl⟩ | exact False.elim h
  · rintro args ⟨value, rfl⟩ cdv A outer s H E Wx hg hr tk po
    show SG _ _ _ _ _ EnT (d_first_invalid value)
    unfold d_first_invalid
    exact (sg_if ((tw_or (t_not (t_truth (e_isis (ts := [.tup, .lst]) (T.z_isinstance) (cl_cons .tup (T.z_tuple) (by decide +kernel) (cl_cons .lst (T.z_list) (by decide +kernel) (cl_nil))) (e_nm 0)))) (tw_or1 (t_cmp (cm_gt) (e_lenI (T.z_len) (e_nm 0)) (e_gi T.c_MOST_COMMANDS.choose_spec)))).t) rfl
    (sg_retP (d := (.tup [.non])) (e_tupL (al_cons (e_non) (al_nil))) rfl rfl)
    (sg_push (sg_forI (t := (.tp [.nm 1, .nm 2])) (f := eT) (emb := (fun j : Unit => [.d value, .un, .un])) (e := (fun a j => [.d value, .d (.int a.1), .d a.2])) po rfl (w_enumZ (T.z_enumerate) (e_nm 0)) (g_tp rfl (gs_cons (g_nm 1 nd) (gs_cons (g_nm 2 nd) (gs_nil)))) rfl (fun _ => rfl) eT_inj (Le.same (Le.same (Le.same (Le.nil)))) (fun x j => (setT_e 1 2) x _) (fun j a b h => Prod.ext (by have q := congrArg (·[1]?) h; exact int_inj _ _ (SV.d.inj (Option.some.inj q))) (by have q := congrArg (·[2]?) h; exact SV.d.inj (Option.some.inj q)))
    (fun p j => sg_if (t_not (t_truth (e_call (ps := ["value"]) ⟨ok_is_command T, T.g_is_command, T.F_is_command.kp⟩ hg (hr.mono (by decide)) tk T.B_is_command (v_cons (e_nm 2) (v_nil))))) rfl
    (sg_retP (d := (.tup [(.int p.1)])) (e_tupL (al_cons (e_nm 1) (al_nil))) rfl ⟨ret (.tup [(.int p.1)]), rfl, rfl⟩)
    (sg_push (sg_nil ⟨(), rfl, (Le.same (Le.un (Le.un (Le.nil))))⟩)))
    (fun j1 => sg_retP (d := (.tup [])) (e_tupL (al_nil)) rfl rfl))))
end
end Q31

namespace Q31
open PySem PySem.Spec L2 PL
section
variable {P : Program} {w : World} {K : PySem.W.Frag} {mg : Str → Option Value} {base : Heap} (T : Facts K mg)
include T
set_option maxHeartbeats 0 in
theorem ok_need_script : FnG P w K mg base 6 T.f_need_script T.d_need_script ["value"] (spM ((penG.wt T.tb mg).wc false) K mg 1 m_need_script) := by
  have nd := sc_need_script.nd
  refine fn_okG (m := m_need_script) (Sh := fun args => ∃ value : D, args = [.d value]) T.F_need_script sc_need_script (by decide) (fun args n P PX h => ?_) ?_
  · unfold m_need_script at h; split at h
    all_goals first | exact ⟨_, rfl⟩ | exact False.elim h
  · rintro args ⟨value, rfl⟩ cdv A outer s H E Wx hg hr tk po
    show SG _ _ _ _ _ EnT (d_need_script value)
    unfold d_need_script
    exact (sg_asg (f := (fun x => x)) (ρ' := fun wrong => [.d value, .d wrong]) 1 2 (e_call (ps := ["value"]) ⟨ok_first_invalid T, T.g_first_invalid, T.F_first_invalid.kp⟩ hg (hr.mono (by decide)) tk T.B_first_invalid (v_cons (e_nm 0) (v_nil))) (g_nm 1 nd) rfl id_inj rfl (by decide) (fun _ => rfl) (fun wrong => sg_if (t_cmp (cm_ne (u64 hr)) (e_nm 1) (e_tupL (al_nil))) rfl
    (sg_stuck)
    (sg_push (sg_nil rfl))))
end
end Q31

namespace Q31
open PySem PySem.Spec L2 PL
section
variable {P : Program} {w : World} {K : PySem.W.Frag} {mg : Str → Option Value} {base : Heap} (T : Facts K mg)
include T
set_option maxHeartbeats 0 in
theorem ok_rule_of_writes : FnG P w K mg base 2 T.f_rule_of_writes T.d_rule_of_writes ["first", "second", "right"] (spM ((penG.wt T.tb mg).wc false) K mg 3 m_rule_of_writes) := by
  have nd := sc_rule_of_writes.nd
  refine fn_okG (m := m_rule_of_writes) (Sh := fun args => ∃ first : D, ∃ second : D, ∃ right : D, args = [.d first, .d second, .d right]) T.F_rule_of_writes sc_rule_of_writes (by decide) (fun args n P PX h => ?_) ?_
  · unfold m_rule_of_writes at h; split at h
    all_goals first | exact ⟨_, _, _, rfl⟩ | exact False.elim h
  · rintro args ⟨first, second, right, rfl⟩ cdv A outer s H E Wx hg hr tk po
    show SG _ _ _ _ _ EnT (d_rule_of_writes first second right)
    unfold d_rule_of_writes
    exact (sg_if (t_cmp (cm_eq (u64 hr)) (e_ix (e_nm 1) (e_int)) (e_gs T.c_BACK.choose_spec)) rfl
    (sg_retT (e_if (t_cmp (cm_eq (u64 hr)) (e_nm 2) (e_tupL (al_cons (e_nm 1) (al_nil)))) (e_int) (e_non)) rfl (fun _ => rfl))
    (sg_push (sg_if (t_cmp (cm_eq (u64 hr)) (e_ix (e_nm 1) (e_int)) (e_gs T.c_KEEP.choose_spec)) rfl
    (sg_retT (e_if (t_cmp (cm_eq (u64 hr)) (e_nm 2) (e_tupL (al_cons (e_nm 1) (al_cons (e_nm 0) (al_nil))))) (e_int) (e_non)) rfl (fun _ => rfl))
    (sg_push (sg_if (t_not (t_truth (e_call (ps := ["command"]) ⟨ok_is_write T, T.g_is_write, T.F_is_write.kp⟩ hg (hr.mono (by decide)) tk T.B_is_write (v_cons (e_nm 1) (v_nil))))) rfl
    (sg_retP (d := .non) (e_non) rfl rfl)
    (sg_push (sg_if (t_cmp (cm_eq (u64 hr)) (e_ix (e_nm 0) (e_int)) (e_ix (e_nm 1) (e_int))) rfl
    (sg_retT (e_if (t_cmp (cm_eq (u64 hr)) (e_nm 2) (e_tupL (al_cons (e_nm 1) (al_nil)))) (e_int) (e_non)) rfl (fun _ => rfl))
    (sg_push (sg_retT (e_if (t_cmp (cm_eq (u64 hr)) (e_nm 2) (e_tupL (al_cons (e_nm 1) (al_cons (e_nm 0) (al_nil))))) (e_int) (e_non)) rfl (fun _ => rfl))))))))))
end
end Q31

namespace Q31
open PySem PySem.Spec L2 PL
section
variable {P : Program} {w : World} {K : PySem.W.Frag} {mg : Str → Option Value} {base : Heap} (T : Facts K mg)
include T
set_option maxHeartbeats 0 in
theorem ok_rule_of_two : FnG P w K mg base 3 T.f_rule_of_two T.d_rule_of_two ["left", "right"] (spM ((penG.wt T.tb mg).wc false) K mg 2 m_rule_of_two) := by
  have nd := sc_rule_of_two.nd
  refine fn_okG (m := m_rule_of_two) (Sh := fun args => ∃ left : D, ∃ right : D, args = [.d left, .d right]) T.F_rule_of_two sc_rule_of_two (by decide) (fun args n P PX h => ?_) ?_
  · unfold m_rule_of_two at h; split at h
    all_goals first | exact ⟨_, _, rfl⟩ | exact False.elim h
  · rintro args ⟨left, right, rfl⟩ cdv A outer s H E Wx hg hr tk po
    show SG _ _ _ _ _ EnT (d_rule_of_two left right)
    unfold d_rule_of_two
    exact (sg_asg2 (f1 := fun a : D × D => a.1) (f2 := fun a : D × D => a.2) (ρ' := fun p => [.d left, .d right, .d p.1, .d p.2, .un, .un]) 2 3 6 (e_nm 0) (g_tp rfl (gs_cons (g_nm 2 nd) (gs_cons (g_nm 3 nd) (gs_nil)))) rfl (fun a b h1 h2 => Prod.ext h1 h2) rfl (by decide) (by decide) (by decide) (fun _ => rfl) (fun p => sg_if (t_truth (e_call (ps := ["command"]) ⟨ok_is_write T, T.g_is_write, T.F_is_write.kp⟩ hg (hr.mono (by decide)) tk T.B_is_write (v_cons (e_nm 2) (v_nil)))) rfl
    (sg_retT (e_call (ps := ["first", "second", "right"]) ⟨ok_rule_of_writes T, T.g_rule_of_writes, T.F_rule_of_writes.kp⟩ hg (hr.mono (by decide)) tk T.B_rule_of_writes (v_cons (e_nm 2) (v_cons (e_nm 3) (v_cons (e_nm 1) (v_nil))))) rfl (fun _ => rfl))
    (sg_push (sg_if ((tw_or (t_cmp (cm_ne (u64 hr)) (e_ix (e_nm 2) (e_int)) (e_gs T.c_MARK.choose_spec)) (tw_or1 (t_cmp (cm_notin) (e_ix (e_nm 3) (e_int)) (e_tupL (al_cons (e_gs T.c_BACK.choose_spec) (al_cons (e_gs T.c_KEEP.choose_spec) (al_nil))))))).t) rfl
    (sg_retP (d := .non) (e_non) rfl rfl)
    (sg_push (sg_ifA (emb := (fun j : Int × List D => [.d left, .d right, .d p.1, .d p.2, .d (.int j.1), .d (.tup j.2)])) (t_cmp (cm_ne (u64 hr)) (e_ix (e_nm 2) (e_int)) (e_ix (e_nm 3) (e_int))) rfl
    (sg_par2 (f1 := fun a : Int × List D => (.int a.1)) (f2 := fun a : Int × List D => (.tup a.2)) (ρ' := fun p1 => [.d left, .d right, .d p.1, .d p.2, .d (.int p1.1), .d (.tup p1.2)]) 4 5 6 (al_cons (e_add (e_int) (e_toint (T.z_int) (e_cmp (cm_eq (u64 hr)) (e_ix (e_nm 3) (e_int)) (e_gs T.c_BACK.choose_spec)))) (al_cons (e_tupL (al_cons (e_nm 3) (al_nil))) (al_nil))) rfl nd rfl (fun a b h1 h2 => Prod.ext (int_inj _ _ h1) (tup_inj _ _ h2)) rfl (by decide) (by decide) (by decide) (fun _ => rfl) (fun p1 => sg_nil ⟨(p1.1, p1.2), rfl, (Le.same (Le.same (Le.same (Le.same (Le.same (Le.same (Le.nil)))))))⟩))
    (sg_if (t_cmp (cm_eq (u64 hr)) (e_ix (e_nm 3) (e_int)) (e_gs T.c_KEEP.choose_spec)) rfl
    (sg_asg2P (z1 := (.int 1)) (z2 := (.tup [])) (ρ' := [.d left, .d right, .d p.1, .d p.2, .d (.int 1), .d (.tup [])]) 4 5 6 (e_tupL (al_cons (e_int) (al_cons (e_tupL (al_nil)) (al_nil)))) (g_tp rfl (gs_cons (g_nm 4 nd) (gs_cons (g_nm 5 nd) (gs_nil)))) rfl rfl (by decide) (by decide) (by decide) rfl (sg_push (sg_nil ⟨(1, []), rfl, (Le.same (Le.same (Le.same (Le.same (Le.same (Le.same (Le.nil)))))))⟩)))
    (sg_eq (sg_par2 (m0 := ret ()) (f1 := fun _ => (.int 2)) (f2 := fun _ => (.tup [p.1])) (k := fun _ => ret (2, [p.1])) (ρ' := fun _ => [.d left, .d right, .d p.1, .d p.2, .d (.int 2), .d (.tup [p.1])]) 4 5 6 (al_cons (e_int) (al_cons (e_tupL (al_cons (e_nm 2) (al_nil))) (al_nil))) rfl nd rfl (fun _ _ _ _ => rfl) rfl (by decide) (by decide) (by decide) (fun _ => rfl) (fun _ => sg_push (sg_nil ⟨(2, [p.1]), rfl, (Le.same (Le.same (Le.same (Le.same (Le.same (Le.same (Le.nil)))))))⟩))) (bnd_ret _ _)))
    (fun j => sg_retT (e_if (t_cmp (cm_eq (u64 hr)) (e_nm 1) (e_nm 5)) (e_nm 4) (e_non)) rfl (fun _ => rfl))))))))
end
end Q31

namespace Q31
open PySem PySem.Spec L2 PL
section
variable {P : Program} {w : World} {K : PySem.W.Frag} {mg : Str → Option Value} {base : Heap} (T : Facts K mg)
include T
set_option maxHeartbeats 0 in
theorem ok_rule_of_three : FnG P w K mg base 2 T.f_rule_of_three T.d_rule_of_three ["left", "right"] (spM ((penG.wt T.tb mg).wc false) K mg 2 m_rule_of_three) := by
  have nd := sc_rule_of_three.nd
  refine fn_okG (m := m_rule_of_three) (Sh := fun args => ∃ left : D, ∃ right : D, args = [.d left, .d right]) T.F_rule_of_three sc_rule_of_three (by decide) (fun args n P PX h => ?_) ?_
  · unfold m_rule_of_three at h; split at h
    all_goals first | exact ⟨_, _, rfl⟩ | exact False.elim h
  · rintro args ⟨left, right, rfl⟩ cdv A outer s H E Wx hg hr tk po
    show SG _ _ _ _ _ EnT (d_rule_of_three left right)
    unfold d_rule_of_three
    exact (sg_asg3 (f1 := fun a : D × D × D => a.1) (f2 := fun a : D × D × D => a.2.1) (f3 := fun a : D × D × D => a.2.2) (ρ' := fun p => [.d left, .d right, .d p.1, .d p.2.1, .d p.2.2]) 2 3 4 5 (e_nm 0) (g_tp rfl (gs_cons (g_nm 2 nd) (gs_cons (g_nm 3 nd) (gs_cons (g_nm 4 nd) (gs_nil))))) rfl (fun a b h1 h2 h3 => Prod.ext h1 (Prod.ext h2 h3)) rfl (by decide) (by decide) (by decide) (by decide) (by decide) (by decide) (fun _ => rfl) (fun p => sg_if (t_truth (e_call (ps := ["command"]) ⟨ok_is_write T, T.g_is_write, T.F_is_write.kp⟩ hg (hr.mono (by decide)) tk T.B_is_write (v_cons (e_nm 2) (v_nil)))) rfl
    (sg_retT (e_if ((tw_and (t_cmp (cm_eq (u64 hr)) (e_ix (e_nm 3) (e_int)) (e_gs T.c_MARK.choose_spec)) (tw_and (t_cmp (cm_eq (u64 hr)) (e_nm 4) (e_nm 2)) (tw_and1 (t_cmp (cm_eq (u64 hr)) (e_nm 1) (e_tupL (al_cons (e_nm 2) (al_cons (e_nm 3) (al_nil)))))))).t) (e_int) (e_non)) rfl (fun _ => rfl))
    (sg_push (sg_if ((tw_or (t_cmp (cm_ne (u64 hr)) (e_ix (e_nm 2) (e_int)) (e_gs T.c_BACK.choose_spec)) (tw_or1 (t_cmp (cm_ne (u64 hr)) (e_nm 3) (e_tupL (al_cons (e_gs T.c_KEEP.choose_spec) (al_cons (e_ix (e_nm 2) (e_int)) (al_nil))))))).t) rfl
    (sg_retP (d := .non) (e_non) rfl rfl)
    (sg_push (sg_if (t_cmp (cm_eq (u64 hr)) (e_ix (e_nm 4) (e_int)) (e_gs T.c_BACK.choose_spec)) rfl
    (sg_retT (e_if (t_cmp (cm_eq (u64 hr)) (e_nm 1) (e_tupL (al_cons (e_nm 3) (al_cons (e_nm 4) (al_nil))))) (e_int) (e_non)) rfl (fun _ => rfl))
    (sg_push (sg_retT (e_if ((tw_and (t_cmp (cm_eq (u64 hr)) (e_nm 4) (e_tupL (al_cons (e_gs T.c_MARK.choose_spec) (al_cons (e_ix (e_nm 2) (e_int)) (al_nil))))) (tw_and1 (t_cmp (cm_eq (u64 hr)) (e_nm 1) (e_tupL (al_cons (e_nm 2) (al_nil)))))).t) (e_int) (e_non)) rfl (fun _ => rfl)))))))))
end
end Q31

namespace Q31
open PySem PySem.Spec L2 PL
section
variable {P : Program} {w : World} {K : PySem.W.Frag} {mg : Str → Option Value} {base : Heap} (T : Facts K mg)
include T
set_option maxHeartbeats 0 in
theorem ok_rule_from : FnG P w K mg base 4 T.f_rule_from T.d_rule_from ["left", "right"] (spM ((penG.wt T.tb mg).wc false) K mg 2 m_rule_from) := by
  have nd := sc_rule_from.nd
  refine fn_okG (m := m_rule_from) (Sh := fun args => ∃ left : D, ∃ right : D, args = [.d left, .d right]) T.F_rule_from sc_rule_from (by decide) (fun args n P PX h => ?_) ?_
  · unfold m_rule_from at h; split at h
    all_goals first | exact ⟨_, _, rfl⟩ | exact False.elim h
  · rintro args ⟨left, right, rfl⟩ cdv A outer s H E Wx hg hr tk po
    show SG _ _ _ _ _ EnT (d_rule_from left right)
    unfold d_rule_from
    exact (sg_if (t_cmp (cm_eqI (u64 hr)) (e_lenI (T.z_len) (e_nm 0)) (e_int)) rfl
    (sg_retT (e_call (ps := ["left", "right"]) ⟨ok_rule_of_two T, T.g_rule_of_two, T.F_rule_of_two.kp⟩ hg (hr.mono (by decide)) tk T.B_rule_of_two (v_cons (e_nm 0) (v_cons (e_nm 1) (v_nil)))) rfl (fun _ => rfl))
    (sg_push (sg_retT (e_if (t_cmp (cm_eqI (u64 hr)) (e_lenI (T.z_len) (e_nm 0)) (e_int)) (e_call (ps := ["left", "right"]) ⟨ok_rule_of_three T, T.g_rule_of_three, T.F_rule_of_three.kp⟩ hg (hr.mono (by decide)) tk T.B_rule_of_three (v_cons (e_nm 0) (v_cons (e_nm 1) (v_nil)))) (e_non)) rfl (fun _ => rfl))))
end
end Q31

namespace Q31
open PySem PySem.Spec L2 PL
section
variable {P : Program} {w : World} {K : PySem.W.Frag} {mg : Str → Option Value} {base : Heap} (T : Facts K mg)
include T
set_option maxHeartbeats 0 in
theorem ok_rule_of : FnG P w K mg base 5 T.f_rule_of T.d_rule_of ["before", "after"] (spM ((penG.wt T.tb mg).wc false) K mg 2 m_rule_of) := by
  have nd := sc_rule_of.nd
  refine fn_okG (m := m_rule_of) (Sh := fun args => ∃ before : D, ∃ after : D, args = [.d before, .d after]) T.F_rule_of sc_rule_of (by decide) (fun args n P PX h => ?_) ?_
  · unfold m_rule_of at h; split at h
    all_goals first | exact ⟨_, _, rfl⟩ | exact False.elim h
  · rintro args ⟨before, after, rfl⟩ cdv A outer s H E Wx hg hr tk po
    show SG _ _ _ _ _ EnT (d_rule_of before after)
    unfold d_rule_of
    exact (sg_asg (f := .lst) (ρ' := fun found => [.d before, .d after, .d (.lst found), .un]) 2 4 ((o_lstL (al_cons (e_call (ps := ["left", "right"]) ⟨ok_rule_from T, T.g_rule_from, T.F_rule_from.kp⟩ hg (hr.mono (by decide)) tk T.B_rule_from (v_cons (e_nm 0) (v_cons (e_nm 1) (v_nil)))) (al_cons (e_call (ps := ["left", "right"]) ⟨ok_rule_from T, T.g_rule_from, T.F_rule_from.kp⟩ hg (hr.mono (by decide)) tk T.B_rule_from (v_cons (e_nm 1) (v_cons (e_nm 0) (v_nil)))) (al_nil)))).e) (g_nm 2 nd) rfl lst_inj rfl (by decide) (fun _ => rfl) (fun found => sg_retT (e_minN rfl (T.z_min) (u65 hr) ((o_lcQ (own := [("number", 3)]) (t := (.nm 3)) (f := (fun y : D => y)) (mu := ret) (ee := (fun a ρ => ρ.set 3 (.d a))) seqT_map (fun x ρ => setT_1 3 (fun y : D => y) x ρ) rfl nd (w_seqZ (e_nm 2)) (blkOk_by (own := [("number", 3)]) (N := sc_rule_of_N) (sc := defScope s_rule_of) (by decide +kernel)) (fun _ _ _ _ _ => g_nm 3 nd) (fun _ _ _ _ _ => ts_one (t_cmp (cm_isnot) (e_nm 3) (e_non))) (fun _ _ _ _ _ => e_nm 3)).e)) rfl (fun _ => rfl)))
end
end Q31

namespace Q31
open PySem PySem.Spec L2 PL
section
variable {P : Program} {w : World} {K : PySem.W.Frag} {mg : Str → Option Value} {base : Heap} (T : Facts K mg)
include T
set_option maxHeartbeats 0 in
theorem ok_nearest_place : FnG P w K mg base 1 T.f_nearest_place T.d_nearest_place ["pile", "name"] (spM ((penG.wt T.tb mg).wc false) K mg 2 m_nearest_place) := by
  have nd := sc_nearest_place.nd
  refine fn_okG (m := m_nearest_place) (Sh := fun args => ∃ pile : D, ∃ name : D, args = [.d pile, .d name]) T.F_nearest_place sc_nearest_place (by decide) (fun args n P PX h => ?_) ?_
  · unfold m_nearest_place at h; split at h
    all_goals first | exact ⟨_, _, rfl⟩ | exact False.elim h
  · rintro args ⟨pile, name, rfl⟩ cdv A outer s H E Wx hg hr tk po
    show SG _ _ _ _ _ EnT (d_nearest_place pile name)
    unfold d_nearest_place
    exact (sg_forI (t := (.nm 2)) (f := D.int) (emb := (fun j : Unit => [.d pile, .d name, .un])) (e := (fun a j => [.d pile, .d name, .d (.int a)])) po rfl (w_rngMZ (T.z_range) (e_sub (e_lenI (T.z_len) (e_nm 0)) (e_int)) (e_neg (e_int)) (e_neg (e_int)) (fun _ => rfl)) (g_nm 2 nd) rfl (fun _ => rfl) int_inj (Le.same (Le.same (Le.same (Le.nil)))) (fun x j => rfl) (fun j a b h => int_inj _ _ (by have q := congrArg (·[2]?) h; exact SV.d.inj (Option.some.inj q)))
    (fun place j => sg_if (t_cmp (cm_eq (u64 hr)) (e_ix (e_ix (e_nm 0) (e_nm 2)) (e_int)) (e_nm 1)) rfl
    (sg_retP (d := (.int place)) (e_nm 2) rfl ⟨ret (.int place), rfl, rfl⟩)
    (sg_push (sg_nil ⟨(), rfl, (Le.same (Le.same (Le.un (Le.nil))))⟩)))
    (fun j1 => sg_retP (d := .non) (e_non) rfl rfl))
end
end Q31

namespace Q31
open PySem PySem.Spec L2 PL
section
variable {P : Program} {w : World} {K : PySem.W.Frag} {mg : Str → Option Value} {base : Heap} (T : Facts K mg)
include T
set_option maxHeartbeats 0 in
theorem ok_done : FnG P w K mg base 4 T.f_done T.d_done ["state", "command"] (spM ((penG.wt T.tb mg).wc false) K mg 2 m_done) := by
  have nd := sc_done.nd
  refine fn_okG (m := m_done) (Sh := fun args => ∃ state : D, ∃ command : D, args = [.d state, .d command]) T.F_done sc_done (by decide) (fun args n P PX h => ?_) ?_
  · unfold m_done at h; split at h
    all_goals first | exact ⟨_, _, rfl⟩ | exact False.elim h
  · rintro args ⟨state, command, rfl⟩ cdv A outer s H E Wx hg hr tk po
    show SG _ _ _ _ _ EnT (d_done state command)
    unfold d_done
    exact (sg_asg2 (f1 := fun a : D × D => a.1) (f2 := fun a : D × D => a.2) (ρ' := fun p => [.d state, .d command, .d p.1, .d p.2, .un]) 2 3 5 (e_nm 0) (g_tp rfl (gs_cons (g_nm 2 nd) (gs_cons (g_nm 3 nd) (gs_nil)))) rfl (fun a b h1 h2 => Prod.ext h1 h2) rfl (by decide) (by decide) (by decide) (fun _ => rfl) (fun p => sg_if (t_truth (e_call (ps := ["command"]) ⟨ok_is_write T, T.g_is_write, T.F_is_write.kp⟩ hg (hr.mono (by decide)) tk T.B_is_write (v_cons (e_nm 1) (v_nil)))) rfl
    (sg_retT (e_tupL (al_cons (e_call (ps := ["store", "change"]) ⟨ok_applied T, T.g_applied, T.F_applied.kp⟩ hg (hr.mono (by decide)) tk T.B_applied (v_cons (e_nm 2) (v_cons (e_tupL (al_cons (e_tupL (al_cons (e_ix (e_nm 1) (e_int)) (al_cons (e_call (ps := ["command"]) ⟨ok_entry_of T, T.g_entry_of, T.F_entry_of.kp⟩ hg (hr.mono (by decide)) tk T.B_entry_of (v_cons (e_nm 1) (v_nil))) (al_nil)))) (al_nil))) (v_nil)))) (al_cons (e_nm 3) (al_nil)))) rfl (fun _ => rfl))
    (sg_push (sg_if (t_cmp (cm_eq (u64 hr)) (e_ix (e_nm 1) (e_int)) (e_gs T.c_MARK.choose_spec)) rfl
    (sg_retT (e_tupL (al_cons (e_nm 2) (al_cons (e_add (e_nm 3) (e_tupL (al_cons (e_tupL (al_cons (e_ix (e_nm 1) (e_int)) (al_cons (e_nm 2) (al_nil)))) (al_nil)))) (al_nil)))) rfl (fun _ => rfl))
    (sg_push (sg_asg (f := (fun x => x)) (ρ' := fun place => [.d state, .d command, .d p.1, .d p.2, .d place]) 4 5 (e_call (ps := ["pile", "name"]) ⟨ok_nearest_place T, T.g_nearest_place, T.F_nearest_place.kp⟩ hg (hr.mono (by decide)) tk T.B_nearest_place (v_cons (e_nm 3) (v_cons (e_ix (e_nm 1) (e_int)) (v_nil)))) (g_nm 4 nd) rfl id_inj rfl (by decide) (fun _ => rfl) (fun place => sg_ifP (t_cmp (cm_is) (e_nm 4) (e_non)) rfl
    (sg_retP (d := .non) (e_non) rfl rfl)
    (sg_push (sg_if (t_cmp (cm_eq (u64 hr)) (e_ix (e_nm 1) (e_int)) (e_gs T.c_BACK.choose_spec)) rfl
    (sg_retT (e_tupL (al_cons (e_ix (e_ix (e_nm 3) (e_asI (e_nm 4))) (e_int)) (al_cons (e_sl (e_nm 3) (p_none) (p_some (e_add (e_asI (e_nm 4)) (e_int)))) (al_nil)))) rfl (fun _ => rfl))
    (sg_push (sg_retT (e_tupL (al_cons (e_nm 2) (al_cons (e_sl (e_nm 3) (p_none) (p_some (e_asI (e_nm 4)))) (al_nil)))) rfl (fun _ => rfl))))))))))))
end
end Q31

namespace Q31
open PySem PySem.Spec L2 PL
section
variable {P : Program} {w : World} {K : PySem.W.Frag} {mg : Str → Option Value} {base : Heap} (T : Facts K mg)
include T
set_option maxHeartbeats 0 in
theorem ok_outcome : FnG P w K mg base 7 T.f_outcome T.d_outcome ["state", "commands"] (spM ((penG.wt T.tb mg).wc false) K mg 2 m_outcome) := by
  have nd := sc_outcome.nd
  refine fn_okG (m := m_outcome) (Sh := fun args => ∃ state : D, ∃ commands : D, args = [.d state, .d commands]) T.F_outcome sc_outcome (by decide) (fun args n P PX h => ?_) ?_
  · unfold m_outcome at h; split at h
    all_goals first | exact ⟨_, _, rfl⟩ | exact False.elim h
  · rintro args ⟨state, commands, rfl⟩ cdv A outer s H E Wx hg hr tk po
    show SG _ _ _ _ _ EnT (d_outcome state commands)
    unfold d_outcome
    exact (sg_expr (e_call (ps := ["value"]) ⟨ok_need_script T, T.g_need_script, T.F_need_script.kp⟩ hg (hr.mono (by decide)) tk T.B_need_script (v_cons (e_nm 1) (v_nil))) rfl (sg_forI (t := (.tp [.nm 2, .nm 3])) (f := eT) (emb := (fun j : D => [.d j, .d commands, .un, .un])) (e := (fun a j => [.d j, .d commands, .d (.int a.1), .d a.2])) po rfl (w_enumZ (T.z_enumerate) (e_nm 1)) (g_tp rfl (gs_cons (g_nm 2 nd) (gs_cons (g_nm 3 nd) (gs_nil)))) rfl (fun _ => rfl) eT_inj (Le.same (Le.same (Le.same (Le.same (Le.nil))))) (fun x j => (setT_e 2 3) x _) (fun j a b h => Prod.ext (by have q := congrArg (·[2]?) h; exact int_inj _ _ (SV.d.inj (Option.some.inj q))) (by have q := congrArg (·[3]?) h; exact SV.d.inj (Option.some.inj q)))
    (fun p j => sg_asg (f := (fun x => x)) (ρ' := fun state1 => [.d state1, .d commands, .d (.int p.1), .d p.2]) 0 4 (e_call (ps := ["state", "command"]) ⟨ok_done T, T.g_done, T.F_done.kp⟩ hg (hr.mono (by decide)) tk T.B_done (v_cons (e_nm 0) (v_cons (e_nm 3) (v_nil)))) (g_nm 0 nd) rfl id_inj rfl (by decide) (fun _ => rfl) (fun state1 => sg_ifP (t_cmp (cm_is) (e_nm 0) (e_non)) rfl
    (sg_retP (d := (.tup [(.str (Str.ofString "refused")), (.int p.1)])) (e_tupL (al_cons (e_str (x := Str.ofString "refused")) (al_cons (e_nm 2) (al_nil)))) rfl ⟨ret (.tup [(.str (Str.ofString "refused")), (.int p.1)]), rfl, rfl⟩)
    (sg_push (sg_nil ⟨state1, rfl, (Le.same (Le.same (Le.un (Le.un (Le.nil)))))⟩))))
    (fun j1 => sg_retP (d := (.tup [(.str (Str.ofString "done")), j1])) (e_tupL (al_cons (e_str (x := Str.ofString "done")) (al_cons (e_nm 0) (al_nil)))) rfl rfl)))
end
end Q31

namespace Q31
open PySem PySem.Spec L2 PL
section
variable {P : Program} {w : World} {K : PySem.W.Frag} {mg : Str → Option Value} {base : Heap} (T : Facts K mg)
include T
set_option maxHeartbeats 0 in
theorem ok_l_pick : FnG P w K mg base 2 T.f_l_pick T.d_l_pick ["_law_pen_here", "_law_some"] (spM ((penG.wt T.tb mg).wc false) K mg 2 m_l_pick) := by
  have nd := sc_l_pick.nd
  refine fn_okG (m := m_l_pick) (Sh := fun args => ∃ someV : D, args = [.pen, .d someV]) T.F_l_pick sc_l_pick (by decide) (fun args n P PX h => ?_) ?_
  · unfold m_l_pick at h; split at h
    all_goals first | exact ⟨_, rfl⟩ | exact False.elim h
  · rintro args ⟨someV, rfl⟩ cdv A outer s H E Wx hg hr tk po
    show SG _ _ _ _ _ EnT (d_l_pick someV)
    unfold d_l_pick
    exact (sg_retT (e_ix (e_nm 1) (e_call (ps := ["_law_pen_here", "_law_many"]) ⟨ok_l_draw T, T.g_l_draw, T.F_l_draw.kp⟩ hg (hr.mono (by decide)) tk T.B_l_draw (v_pen 0 (v_cons (e_lenI (T.z_len) (e_nm 1)) (v_nil))))) rfl (fun _ => rfl))
end
end Q31

namespace Q31
open PySem PySem.Spec L2 PL
section
variable {P : Program} {w : World} {K : PySem.W.Frag} {mg : Str → Option Value} {base : Heap} (T : Facts K mg)
include T
set_option maxHeartbeats 0 in
theorem ok_l_words : FnG P w K mg base 2 T.f_l_words T.d_l_words ["_law_pen_here", "_law_many"] (spM ((penG.wt T.tb mg).wc false) K mg 2 m_l_words) := by
  have nd := sc_l_words.nd
  refine fn_okG (m := m_l_words) (Sh := fun args => ∃ many : Int, args = [.pen, .d (.int many)]) T.F_l_words sc_l_words (by decide) (fun args n P PX h => ?_) ?_
  · unfold m_l_words at h; split at h
    all_goals first | exact ⟨_, rfl⟩ | exact False.elim h
  · rintro args ⟨many, rfl⟩ cdv A outer s H E Wx hg hr tk po
    show SG _ _ _ _ _ EnT (d_l_words many)
    unfold d_l_words
    exact (sg_asgP (d := (.str (Str.ofString "abcdefghijklmnopqrstuvwxyz"))) (ρ' := [.pen, .d (.int many), .d (.str (Str.ofString "abcdefghijklmnopqrstuvwxyz")), .un, .un, .un, .un, .un, .un]) 2 (e_str (x := Str.ofString "abcdefghijklmnopqrstuvwxyz")) (g_nm 2 nd) rfl rfl (sg_asg (f := .int) (ρ' := fun way => [.pen, .d (.int many), .d (.str (Str.ofString "abcdefghijklmnopqrstuvwxyz")), .d (.int way), .un, .un, .un, .un, .un]) 3 9 (e_call (ps := ["_law_pen_here", "_law_many"]) ⟨ok_l_draw T, T.g_l_draw, T.F_l_draw.kp⟩ hg (hr.mono (by decide)) tk T.B_l_draw (v_pen 0 (v_cons (e_int) (v_nil)))) (g_nm 3 nd) rfl int_inj rfl (by decide) (fun _ => rfl) (fun way => sg_asg (f := .int) (ρ' := fun startV => [.pen, .d (.int many), .d (.str (Str.ofString "abcdefghijklmnopqrstuvwxyz")), .d (.int way), .d (.int startV), .un, .un, .un, .un]) 4 9 (e_call (ps := ["_law_pen_here", "_law_many"]) ⟨ok_l_draw T, T.g_l_draw, T.F_l_draw.kp⟩ hg (hr.mono (by decide)) tk T.B_l_draw (v_pen 0 (v_cons (e_int) (v_nil)))) (g_nm 4 nd) rfl int_inj rfl (by decide) (fun _ => rfl) (fun startV => sg_ifP (t_cmp (cm_lt) (e_nm 3) (e_int)) rfl
    (sg_retT ((o_lcQ (own := [("_law_k", 5)]) (t := (.nm 5)) (f := D.int) (mu := ret) (ee := (fun a ρ => ρ.set 5 (.d (.int a)))) (fun _ => rfl) (fun x ρ => setT_1 5 D.int x ρ) rfl nd (w_rng1Z (T.z_range) (e_nm 1)) (blkOk_by (own := [("_law_k", 5)]) (N := sc_l_words_N) (sc := defScope s_l_words) (by decide +kernel)) (fun _ _ _ _ _ => g_nm 5 nd) (fun _ _ _ _ _ => ts_nil) (fun _ _ _ _ _ => e_ix (e_nm 2) (e_nm 5))).e) rfl (fun _ => rfl))
    (sg_push (sg_ifP (t_cmp (cm_eqI (u64 hr)) (e_nm 3) (e_int)) rfl
    (sg_retT ((o_lcQ (own := [("_law_k", 5)]) (t := (.nm 5)) (f := D.int) (mu := ret) (ee := (fun a ρ => ρ.set 5 (.d (.int a)))) (fun _ => rfl) (fun x ρ => setT_1 5 D.int x ρ) rfl nd (w_rng1Z (T.z_range) (e_nm 1)) (blkOk_by (own := [("_law_k", 5)]) (N := sc_l_words_N) (sc := defScope s_l_words) (by decide +kernel)) (fun _ _ _ _ _ => g_nm 5 nd) (fun _ _ _ _ _ => ts_nil) (fun _ _ _ _ _ => e_repS (e_ix (e_nm 2) (e_nm 4)) (e_sub (e_int) (e_nm 5)))).e) rfl (fun _ => rfl))
    (sg_push (sg_ownP (d := []) (ρ' := [.pen, .d (.int many), .d (.str (Str.ofString "abcdefghijklmnopqrstuvwxyz")), .d (.int way), .d (.int startV), .un, .own [], .un, .un]) 6 (o_lstL (al_nil)) nd rfl rfl (sg_forI (t := (.nm 5)) (f := D.int) (emb := (fun j : List D => [.pen, .d (.int many), .d (.str (Str.ofString "abcdefghijklmnopqrstuvwxyz")), .d (.int way), .d (.int startV), .un, .own j, .un, .un])) (e := (fun a j => [.pen, .d (.int many), .d (.str (Str.ofString "abcdefghijklmnopqrstuvwxyz")), .d (.int way), .d (.int startV), .d (.int a), .own j, .un, .un])) po rfl (w_rng1Z (T.z_range) (e_nm 1)) (g_nm 5 nd) rfl (fun _ => rfl) int_inj (Le.same (Le.same (Le.same (Le.same (Le.same (Le.same (Le.same (Le.same (Le.same (Le.nil)))))))))) (fun x j => rfl) (fun j a b h => int_inj _ _ (by have q := congrArg (·[5]?) h; exact SV.d.inj (Option.some.inj q)))
    (fun k2 j => sg_asgLc (ρ' := fun tail => [.pen, .d (.int many), .d (.str (Str.ofString "abcdefghijklmnopqrstuvwxyz")), .d (.int way), .d (.int startV), .d (.int k2), .own j, .d (.lst tail), .un]) (own := [("_law_j", 8)]) (t := (.nm 8)) (f := D.int) (mu := ret) (ee := (fun a ρ => ρ.set 8 (.d (.int a)))) 7 9 (fun _ => rfl) (fun x ρ => setT_1 8 D.int x ρ) rfl nd (w_rng1Z (T.z_range) (e_call (ps := ["_law_pen_here", "_law_many"]) ⟨ok_l_draw T, T.g_l_draw, T.F_l_draw.kp⟩ hg (hr.mono (by decide)) tk T.B_l_draw (v_pen 0 (v_cons (e_int) (v_nil))))) (blkOk_by (own := [("_law_j", 8)]) (N := sc_l_words_N) (sc := defScope s_l_words) (by decide +kernel)) (fun _ _ _ _ _ => g_nm 8 nd) (fun _ _ _ _ _ => ts_nil) (fun _ _ _ _ _ => e_ix (e_nm 2) (e_call (ps := ["_law_pen_here", "_law_many"]) ⟨ok_l_draw T, T.g_l_draw, T.F_l_draw.kp⟩ hg (hr.mono (by decide)) L2.takes0 T.B_l_draw (v_pen 0 (v_cons (e_int) (v_nil))))) rfl rfl (by decide) (fun _ => rfl) (fun tail => sg_app (f := (fun x => x)) (ρ' := fun app => [.pen, .d (.int many), .d (.str (Str.ofString "abcdefghijklmnopqrstuvwxyz")), .d (.int way), .d (.int startV), .d (.int k2), .own (j ++ [app]), .d (.lst tail), .un]) (xs := j) 6 9 (e_add (e_ix (e_nm 2) (e_mod (e_add (e_nm 4) (e_mul (e_int) (e_nm 5))) (e_int))) (e_join (e_str (x := Str.ofString "")) (e_nm 7))) rfl rfl id_inj rfl (by decide) (fun _ => rfl) (fun app => sg_nil ⟨(j ++ [app]), rfl, (Le.same (Le.same (Le.same (Le.same (Le.same (Le.un (Le.same (Le.un (Le.same (Le.nil))))))))))⟩)))
    (fun j3 => sg_retP (d := (.lst j3)) (e_nm 6) rfl rfl))))))))))
end
end Q31

namespace Q31
open PySem PySem.Spec L2 PL
section
variable {P : Program} {w : World} {K : PySem.W.Frag} {mg : Str → Option Value} {base : Heap} (T : Facts K mg)
include T
set_option maxHeartbeats 0 in
theorem ok_l_value : FnG P w K mg base 2 T.f_l_value T.d_l_value ["_law_pen_here"] (spM ((penG.wt T.tb mg).wc false) K mg 1 m_l_value) := by
  have nd := sc_l_value.nd
  refine fn_okG (m := m_l_value) (Sh := fun args => args = [.pen]) T.F_l_value sc_l_value (by decide) (fun args n P PX h => ?_) ?_
  · unfold m_l_value at h; split at h
    all_goals first | exact rfl | exact False.elim h
  · rintro args rfl cdv A outer s H E Wx hg hr tk po
    show SG _ _ _ _ _ EnT (d_l_value )
    unfold d_l_value
    exact (sg_asg (f := .int) (ρ' := fun way => [.pen, .d (.int way), .un]) 1 3 (e_call (ps := ["_law_pen_here", "_law_many"]) ⟨ok_l_draw T, T.g_l_draw, T.F_l_draw.kp⟩ hg (hr.mono (by decide)) tk T.B_l_draw (v_pen 0 (v_cons (e_int) (v_nil)))) (g_nm 1 nd) rfl int_inj rfl (by decide) (fun _ => rfl) (fun way => sg_asg (f := .int) (ρ' := fun near => [.pen, .d (.int way), .d (.int near)]) 2 3 (e_call (ps := ["_law_pen_here", "_law_many"]) ⟨ok_l_draw T, T.g_l_draw, T.F_l_draw.kp⟩ hg (hr.mono (by decide)) tk T.B_l_draw (v_pen 0 (v_cons (e_int) (v_nil)))) (g_nm 2 nd) rfl int_inj rfl (by decide) (fun _ => rfl) (fun near => sg_retT (e_ix ((o_lstL (al_cons (e_nm 2) (al_cons (e_nm 2) (al_cons (e_sub (e_int) (e_nm 2)) (al_cons (e_ix ((o_lstL (al_cons (e_powC (v := 1000000000000000000) (e_int) (e_int)) (al_cons (e_sub (e_int) (e_powC (v := 1000000000000000000) (e_int) (e_int))) (al_cons (e_int) (al_nil))))).e) (e_nm 2)) (al_nil)))))).e) (e_nm 1)) rfl (fun _ => rfl))))
end
end Q31

namespace Q31
open PySem PySem.Spec L2 PL
section
variable {P : Program} {w : World} {K : PySem.W.Frag} {mg : Str → Option Value} {base : Heap} (T : Facts K mg)
include T
set_option maxHeartbeats 0 in
theorem ok_l_command : FnG P w K mg base 3 T.f_l_command T.d_l_command ["_law_pen_here", "_law_words_here", "_law_keys"] (spM ((penG.wt T.tb mg).wc false) K mg 3 m_l_command) := by
  have nd := sc_l_command.nd
  refine fn_okG (m := m_l_command) (Sh := fun args => ∃ words : D, ∃ keys : D, args = [.pen, .d words, .d keys]) T.F_l_command sc_l_command (by decide) (fun args n P PX h => ?_) ?_
  · unfold m_l_command at h; split at h
    all_goals first | exact ⟨_, _, rfl⟩ | exact False.elim h
  · rintro args ⟨words, keys, rfl⟩ cdv A outer s H E Wx hg hr tk po
    show SG _ _ _ _ _ EnT (d_l_command words keys)
    unfold d_l_command
    exact (sg_asg (f := .int) (ρ' := fun way => [.pen, .d words, .d keys, .d (.int way)]) 3 4 (e_call (ps := ["_law_pen_here", "_law_many"]) ⟨ok_l_draw T, T.g_l_draw, T.F_l_draw.kp⟩ hg (hr.mono (by decide)) tk T.B_l_draw (v_pen 0 (v_cons (e_int) (v_nil)))) (g_nm 3 nd) rfl int_inj rfl (by decide) (fun _ => rfl) (fun way => sg_ifP (t_cmp (cm_lt) (e_nm 3) (e_int)) rfl
    (sg_retT (e_tupL (al_cons (e_str (x := Str.ofString "set")) (al_cons (e_call (ps := ["_law_pen_here", "_law_some"]) ⟨ok_l_pick T, T.g_l_pick, T.F_l_pick.kp⟩ hg (hr.mono (by decide)) tk T.B_l_pick (v_pen 0 (v_cons (e_nm 2) (v_nil)))) (al_cons (e_call (ps := ["_law_pen_here"]) ⟨ok_l_value T, T.g_l_value, T.F_l_value.kp⟩ hg (hr.mono (by decide)) tk T.B_l_value (v_pen 0 (v_nil))) (al_nil))))) rfl (fun _ => rfl))
    (sg_push (sg_ifP (t_cmp (cm_eqI (u64 hr)) (e_nm 3) (e_int)) rfl
    (sg_retT (e_tupL (al_cons (e_str (x := Str.ofString "del")) (al_cons (e_call (ps := ["_law_pen_here", "_law_some"]) ⟨ok_l_pick T, T.g_l_pick, T.F_l_pick.kp⟩ hg (hr.mono (by decide)) tk T.B_l_pick (v_pen 0 (v_cons (e_nm 2) (v_nil)))) (al_nil)))) rfl (fun _ => rfl))
    (sg_push (sg_retT (e_tupL (al_cons (e_ix ((o_lstL (al_cons (e_str (x := Str.ofString "mark")) (al_cons (e_str (x := Str.ofString "mark")) (al_cons (e_str (x := Str.ofString "back")) (al_cons (e_str (x := Str.ofString "keep")) (al_cons (e_str (x := Str.ofString "keep")) (al_nil))))))).e) (e_sub (e_nm 3) (e_int))) (al_cons (e_call (ps := ["_law_pen_here", "_law_some"]) ⟨ok_l_pick T, T.g_l_pick, T.F_l_pick.kp⟩ hg (hr.mono (by decide)) tk T.B_l_pick (v_pen 0 (v_cons (e_nm 1) (v_nil)))) (al_nil)))) rfl (fun _ => rfl)))))))
end
end Q31

namespace Q31
open PySem PySem.Spec L2 PL
section
variable {P : Program} {w : World} {K : PySem.W.Frag} {mg : Str → Option Value} {base : Heap} (T : Facts K mg)
include T
set_option maxHeartbeats 0 in
theorem ok_l_commands : FnG P w K mg base 4 T.f_l_commands T.d_l_commands ["_law_pen_here", "_law_words_here", "_law_keys", "_law_most"] (spM ((penG.wt T.tb mg).wc false) K mg 4 m_l_commands) := by
  have nd := sc_l_commands.nd
  refine fn_okG (m := m_l_commands) (Sh := fun args => ∃ words : D, ∃ keys : D, ∃ most : Int, args = [.pen, .d words, .d keys, .d (.int most)]) T.F_l_commands sc_l_commands (by decide) (fun args n P PX h => ?_) ?_
  · unfold m_l_commands at h; split at h
    all_goals first | exact ⟨_, _, _, rfl⟩ | exact False.elim h
  · rintro args ⟨words, keys, most, rfl⟩ cdv A outer s H E Wx hg hr tk po
    show SG _ _ _ _ _ EnT (d_l_commands words keys most)
    unfold d_l_commands
    exact (sg_asg (f := (fun x => x)) (ρ' := fun size => [.pen, .d words, .d keys, .d (.int most), .d size, .un]) 4 6 (e_ix ((o_lstL (al_cons (e_nm 3) (al_cons (e_call (ps := ["_law_pen_here", "_law_many"]) ⟨ok_l_draw T, T.g_l_draw, T.F_l_draw.kp⟩ hg (hr.mono (by decide)) tk T.B_l_draw (v_pen 0 (v_cons (e_add (e_nm 3) (e_int)) (v_nil)))) (al_nil)))).e) (e_call (ps := ["_law_pen_here", "_law_many"]) ⟨ok_l_draw T, T.g_l_draw, T.F_l_draw.kp⟩ hg (hr.mono (by decide)) tk T.B_l_draw (v_pen 0 (v_cons (e_int) (v_nil))))) (g_nm 4 nd) rfl id_inj rfl (by decide) (fun _ => rfl) (fun size => sg_retT ((o_lcQ (own := [("_law_k", 5)]) (t := (.nm 5)) (f := D.int) (mu := ret) (ee := (fun a ρ => ρ.set 5 (.d (.int a)))) (fun _ => rfl) (fun x ρ => setT_1 5 D.int x ρ) rfl nd (w_rng1Z (T.z_range) (e_asI (e_nm 4))) (blkOk_by (own := [("_law_k", 5)]) (N := sc_l_commands_N) (sc := defScope s_l_commands) (by decide +kernel)) (fun _ _ _ _ _ => g_nm 5 nd) (fun _ _ _ _ _ => ts_nil) (fun _ _ _ _ _ => e_call (ps := ["_law_pen_here", "_law_words_here", "_law_keys"]) ⟨ok_l_command T, T.g_l_command, T.F_l_command.kp⟩ hg (hr.mono (by decide)) L2.takes0 T.B_l_command (v_pen 0 (v_cons (e_nm 1) (v_cons (e_nm 2) (v_nil)))))).e) rfl (fun _ => rfl)))
end
end Q31

namespace Q31
open PySem PySem.Spec L2 PL
section
variable {P : Program} {w : World} {K : PySem.W.Frag} {mg : Str → Option Value} {base : Heap} (T : Facts K mg)
include T
set_option maxHeartbeats 0 in
theorem ok_l_store : FnG P w K mg base 3 T.f_l_store T.d_l_store ["_law_pen_here", "_law_keys"] (spM ((penG.wt T.tb mg).wc false) K mg 2 m_l_store) := by
  have nd := sc_l_store.nd
  refine fn_okG (m := m_l_store) (Sh := fun args => ∃ keys : D, args = [.pen, .d keys]) T.F_l_store sc_l_store (by decide) (fun args n P PX h => ?_) ?_
  · unfold m_l_store at h; split at h
    all_goals first | exact ⟨_, rfl⟩ | exact False.elim h
  · rintro args ⟨keys, rfl⟩ cdv A outer s H E Wx hg hr tk po
    show SG _ _ _ _ _ EnT (d_l_store keys)
    unfold d_l_store
    exact (sg_ownP (d := []) (ρ' := [.pen, .d keys, .own [], .un]) 2 (o_lstL (al_nil)) nd rfl rfl (sg_forI (t := (.nm 3)) (f := (fun y : D => y)) (emb := (fun j : List D => [.pen, .d keys, .own j, .un])) (e := (fun a j => [.pen, .d keys, .own j, .d a])) po rfl (w_seqZ ((o_sortS (T.z_sorted) (e_nm 1)).e)) (g_nm 3 nd) rfl seqT_map id_inj (Le.same (Le.same (Le.same (Le.same (Le.nil))))) (fun x j => rfl) (fun j a b h => id_inj _ _ (by have q := congrArg (·[3]?) h; exact SV.d.inj (Option.some.inj q)))
    (fun key j => sg_if (t_cmp (cm_gt) (e_call (ps := ["_law_pen_here", "_law_many"]) ⟨ok_l_draw T, T.g_l_draw, T.F_l_draw.kp⟩ hg (hr.mono (by decide)) tk T.B_l_draw (v_pen 0 (v_cons (e_int) (v_nil)))) (e_int)) rfl
    (sg_app (f := .tup) (ρ' := fun app => [.pen, .d keys, .own (j ++ [(.tup app)]), .d key]) (xs := j) 2 4 (e_tupL (al_cons (e_nm 3) (al_cons (e_call (ps := ["_law_pen_here"]) ⟨ok_l_value T, T.g_l_value, T.F_l_value.kp⟩ hg (hr.mono (by decide)) tk T.B_l_value (v_pen 0 (v_nil))) (al_nil)))) rfl rfl tup_inj rfl (by decide) (fun _ => rfl) (fun app => sg_push (sg_nil ⟨(j ++ [(.tup app)]), rfl, (Le.same (Le.same (Le.same (Le.un (Le.nil)))))⟩)))
    (sg_push (sg_nil ⟨j, rfl, (Le.same (Le.same (Le.same (Le.un (Le.nil)))))⟩)))
    (fun j1 => sg_retP (d := (.tup j1)) (e_tuple (T.z_tuple) (e_nm 2)) rfl rfl)))
end
end Q31

namespace Q31
open PySem PySem.Spec L2 PL
section
variable {P : Program} {w : World} {K : PySem.W.Frag} {mg : Str → Option Value} {base : Heap} (T : Facts K mg)
include T
set_option maxHeartbeats 0 in
theorem ok_l_state : FnG P w K mg base 4 T.f_l_state T.d_l_state ["_law_pen_here", "_law_words_here", "_law_keys", "_law_most"] (spM ((penG.wt T.tb mg).wc false) K mg 4 m_l_state) := by
  have nd := sc_l_state.nd
  refine fn_okG (m := m_l_state) (Sh := fun args => ∃ words : D, ∃ keys : D, ∃ most : Int, args = [.pen, .d words, .d keys, .d (.int most)]) T.F_l_state sc_l_state (by decide) (fun args n P PX h => ?_) ?_
  · unfold m_l_state at h; split at h
    all_goals first | exact ⟨_, _, _, rfl⟩ | exact False.elim h
  · rintro args ⟨words, keys, most, rfl⟩ cdv A outer s H E Wx hg hr tk po
    show SG _ _ _ _ _ EnT (d_l_state words keys most)
    unfold d_l_state
    exact (sg_asg (f := (fun x => x)) (ρ' := fun size => [.pen, .d words, .d keys, .d (.int most), .d size, .un, .un]) 4 7 (e_ix ((o_lstL (al_cons (e_nm 3) (al_cons (e_call (ps := ["_law_pen_here", "_law_many"]) ⟨ok_l_draw T, T.g_l_draw, T.F_l_draw.kp⟩ hg (hr.mono (by decide)) tk T.B_l_draw (v_pen 0 (v_cons (e_add (e_nm 3) (e_int)) (v_nil)))) (al_nil)))).e) (e_call (ps := ["_law_pen_here", "_law_many"]) ⟨ok_l_draw T, T.g_l_draw, T.F_l_draw.kp⟩ hg (hr.mono (by decide)) tk T.B_l_draw (v_pen 0 (v_cons (e_int) (v_nil))))) (g_nm 4 nd) rfl id_inj rfl (by decide) (fun _ => rfl) (fun size => sg_asgLc (ρ' := fun pile => [.pen, .d words, .d keys, .d (.int most), .d size, .d (.lst pile), .un]) (own := [("_law_k", 6)]) (t := (.nm 6)) (f := D.int) (mu := ret) (ee := (fun a ρ => ρ.set 6 (.d (.int a)))) 5 7 (fun _ => rfl) (fun x ρ => setT_1 6 D.int x ρ) rfl nd (w_rng1Z (T.z_range) (e_asI (e_nm 4))) (blkOk_by (own := [("_law_k", 6)]) (N := sc_l_state_N) (sc := defScope s_l_state) (by decide +kernel)) (fun _ _ _ _ _ => g_nm 6 nd) (fun _ _ _ _ _ => ts_nil) (fun _ _ _ _ _ => e_tupL (al_cons (e_call (ps := ["_law_pen_here", "_law_some"]) ⟨ok_l_pick T, T.g_l_pick, T.F_l_pick.kp⟩ hg (hr.mono (by decide)) L2.takes0 T.B_l_pick (v_pen 0 (v_cons (e_nm 1) (v_nil)))) (al_cons (e_call (ps := ["_law_pen_here", "_law_keys"]) ⟨ok_l_store T, T.g_l_store, T.F_l_store.kp⟩ hg (hr.mono (by decide)) L2.takes0 T.B_l_store (v_pen 0 (v_cons (e_nm 2) (v_nil)))) (al_nil)))) rfl rfl (by decide) (fun _ => rfl) (fun pile => sg_retT (e_tupL (al_cons (e_call (ps := ["_law_pen_here", "_law_keys"]) ⟨ok_l_store T, T.g_l_store, T.F_l_store.kp⟩ hg (hr.mono (by decide)) tk T.B_l_store (v_pen 0 (v_cons (e_nm 2) (v_nil)))) (al_cons (e_tuple (T.z_tuple) (e_nm 5)) (al_nil)))) rfl (fun _ => rfl))))
end
end Q31

namespace Q31
open PySem PySem.Spec L2 PL
section
variable {P : Program} {w : World} {K : PySem.W.Frag} {mg : Str → Option Value} {base : Heap} (T : Facts K mg)
include T
set_option maxHeartbeats 0 in
theorem ok_l_do : FnG P w K mg base 1 T.f_l_do T.d_l_do ["_law_house", "_law_deed"] (spM ((penG.wt T.tb mg).wc false) K mg 2 m_l_do) := by
  have nd := sc_l_do.nd
  refine fn_okG (m := m_l_do) (Sh := fun args => ∃ house : D, ∃ deed : D, args = [.d house, .d deed]) T.F_l_do sc_l_do (by decide) (fun args n P PX h => ?_) ?_
  · unfold m_l_do at h; split at h
    all_goals first | exact ⟨_, _, rfl⟩ | exact False.elim h
  · rintro args ⟨house, deed, rfl⟩ cdv A outer s H E Wx hg hr tk po
    show SG _ _ _ _ _ EnT (d_l_do house deed)
    unfold d_l_do
    exact (sg_asg2 (f1 := fun a : D × D => a.1) (f2 := fun a : D × D => a.2) (ρ' := fun p => [.d house, .d deed, .d p.1, .d p.2, .un, .un, .un, .un]) 2 3 8 (e_nm 0) (g_tp rfl (gs_cons (g_nm 2 nd) (gs_cons (g_nm 3 nd) (gs_nil)))) rfl (fun a b h1 h2 => Prod.ext h1 h2) rfl (by decide) (by decide) (by decide) (fun _ => rfl) (fun p => sg_if (t_cmp (cm_in) (e_ix (e_nm 1) (e_int)) (e_tupL (al_cons (e_str (x := Str.ofString "set")) (al_cons (e_str (x := Str.ofString "del")) (al_nil))))) rfl
    (sg_dic (ρ' := fun later => [.d house, .d deed, .d p.1, .d p.2, .ownK later, .un, .un, .un]) 4 8 (k_dict rfl (T.z_dict) ((o_lcIQ (own := [("_law_pair", 7)]) (t := (.nm 7)) (mu := ret) (ee := (fun a ρ => ρ.set 7 (.d a))) 2 (fun x ρ => setT_1 7 (fun y : D => y) x ρ) rfl nd (blkOk_by (own := [("_law_pair", 7)]) (N := sc_l_do_N) (sc := defScope s_l_do) (by decide +kernel)) (fun _ _ _ _ _ => g_nm 7 nd) (fun _ _ _ _ _ => ts_one (t_cmp (cm_ne (u64 hr)) (e_ix (e_nm 7) (e_int)) (e_ix (e_nm 1) (e_int)))) (fun _ _ _ _ _ => e_nm 7)).e)) nd rfl rfl (by decide) (fun _ => rfl) (fun later => sg_ifA (emb := (fun j : List (Key × D) => [.d house, .d deed, .d p.1, .d p.2, .ownK j, .un, .un, .un])) (t_cmp (cm_eq (u64 hr)) (e_ix (e_nm 1) (e_int)) (e_str (x := Str.ofString "set"))) rfl
    (sg_put (xs := later) (ρ' := fun later1 => [.d house, .d deed, .d p.1, .d p.2, .ownK later1, .un, .un, .un]) 4 8 (u1 hr) (e_ix (e_nm 1) (e_int)) (e_ix (e_nm 1) (e_int)) rfl rfl rfl (by decide) (fun _ => rfl) (fun later1 => sg_nil ⟨later1, rfl, (Le.same (Le.same (Le.same (Le.same (Le.same (Le.same (Le.same (Le.same (Le.nil)))))))))⟩))
    (sg_nil ⟨later, rfl, (Le.same (Le.same (Le.same (Le.same (Le.same (Le.same (Le.same (Le.same (Le.nil)))))))))⟩)
    (fun j => sg_retP (d := (.tup [(.dic j), p.2])) (e_tupL (al_cons (e_nm 4) (al_cons (e_nm 3) (al_nil)))) rfl rfl)))
    (sg_push (sg_if (t_cmp (cm_eq (u64 hr)) (e_ix (e_nm 1) (e_int)) (e_str (x := Str.ofString "mark"))) rfl
    (sg_retT (e_tupL (al_cons (e_nm 2) (al_cons (e_add (e_nm 3) ((o_lstL (al_cons (e_tupL (al_cons (e_ix (e_nm 1) (e_int)) (al_cons (e_nm 2) (al_nil)))) (al_nil))).e)) (al_nil)))) rfl (fun _ => rfl))
    (sg_push (sg_asgLc (ρ' := fun places => [.d house, .d deed, .d p.1, .d p.2, .un, .d (.lst places), .un, .un]) (own := [("_law_at", 6)]) (t := (.nm 6)) (f := D.int) (mu := ret) (ee := (fun a ρ => ρ.set 6 (.d (.int a)))) 5 8 (fun _ => rfl) (fun x ρ => setT_1 6 D.int x ρ) rfl nd (w_rng1Z (T.z_range) (e_lenI (T.z_len) (e_nm 3))) (blkOk_by (own := [("_law_at", 6)]) (N := sc_l_do_N) (sc := defScope s_l_do) (by decide +kernel)) (fun _ _ _ _ _ => g_nm 6 nd) (fun _ _ _ _ _ => ts_one (t_cmp (cm_eq (u64 hr)) (e_ix (e_ix (e_nm 3) (e_nm 6)) (e_int)) (e_ix (e_nm 1) (e_int)))) (fun _ _ _ _ _ => e_nm 6) rfl rfl (by decide) (fun _ => rfl) (fun places => sg_if (t_cmp (cm_eq (u64 hr)) (e_nm 5) ((o_lstL (al_nil)).e)) rfl
    (sg_retP (d := .non) (e_non) rfl rfl)
    (sg_push (sg_if (t_cmp (cm_eq (u64 hr)) (e_ix (e_nm 1) (e_int)) (e_str (x := Str.ofString "back"))) rfl
    (sg_retT (e_tupL (al_cons (e_ix (e_ix (e_nm 3) (e_asI (e_ix (e_nm 5) (e_neg (e_int))))) (e_int)) (al_cons (e_sl (e_nm 3) (p_none) (p_some (e_add (e_asI (e_ix (e_nm 5) (e_neg (e_int)))) (e_int)))) (al_nil)))) rfl (fun _ => rfl))
    (sg_push (sg_retT (e_tupL (al_cons (e_nm 2) (al_cons (e_sl (e_nm 3) (p_none) (p_some (e_asI (e_ix (e_nm 5) (e_neg (e_int)))))) (al_nil)))) rfl (fun _ => rfl))))))))))))
end
end Q31

namespace Q31
open PySem PySem.Spec L2 PL
section
variable {P : Program} {w : World} {K : PySem.W.Frag} {mg : Str → Option Value} {base : Heap} (T : Facts K mg)
include T
set_option maxHeartbeats 0 in
theorem ok_l_run : FnG P w K mg base 2 T.f_l_run T.d_l_run ["_law_house", "_law_deeds"] (spM ((penG.wt T.tb mg).wc false) K mg 2 m_l_run) := by
  have nd := sc_l_run.nd
  refine fn_okG (m := m_l_run) (Sh := fun args => ∃ house : D, ∃ deeds : D, args = [.d house, .d deeds]) T.F_l_run sc_l_run (by decide) (fun args n P PX h => ?_) ?_
  · unfold m_l_run at h; split at h
    all_goals first | exact ⟨_, _, rfl⟩ | exact False.elim h
  · rintro args ⟨house, deeds, rfl⟩ cdv A outer s H E Wx hg hr tk po
    show SG _ _ _ _ _ EnT (d_l_run house deeds)
    unfold d_l_run
    exact (sg_forI (t := (.nm 2)) (f := (fun y : D => y)) (emb := (fun j : D => [.d j, .d deeds, .un])) (e := (fun a j => [.d j, .d deeds, .d a])) po rfl (w_seqZ (e_nm 1)) (g_nm 2 nd) rfl seqT_map id_inj (Le.same (Le.same (Le.same (Le.nil)))) (fun x j => rfl) (fun j a b h => id_inj _ _ (by have q := congrArg (·[2]?) h; exact SV.d.inj (Option.some.inj q)))
    (fun deed j => sg_ifP (t_cmp (cm_isnot) (e_nm 0) (e_non)) rfl
    (sg_asg (f := (fun x => x)) (ρ' := fun house1 => [.d house1, .d deeds, .d deed]) 0 3 (e_call (ps := ["_law_house", "_law_deed"]) ⟨ok_l_do T, T.g_l_do, T.F_l_do.kp⟩ hg (hr.mono (by decide)) tk T.B_l_do (v_cons (e_nm 0) (v_cons (e_nm 2) (v_nil)))) (g_nm 0 nd) rfl id_inj rfl (by decide) (fun _ => rfl) (fun house1 => sg_push (sg_nil ⟨house1, rfl, (Le.same (Le.same (Le.un (Le.nil))))⟩)))
    (sg_push (sg_nil ⟨j, rfl, (Le.same (Le.same (Le.un (Le.nil))))⟩)))
    (fun j1 => sg_retP (d := j1) (e_nm 0) rfl rfl))
end
end Q31

namespace Q31
open PySem PySem.Spec L2 PL
section
variable {P : Program} {w : World} {K : PySem.W.Frag} {mg : Str → Option Value} {base : Heap} (T : Facts K mg)
include T
set_option maxHeartbeats 0 in
theorem ok_l_opened : FnG P w K mg base 1 T.f_l_opened T.d_l_opened ["_law_house"] (spM ((penG.wt T.tb mg).wc false) K mg 1 m_l_opened) := by
  have nd := sc_l_opened.nd
  refine fn_okG (m := m_l_opened) (Sh := fun args => ∃ house : D, args = [.d house]) T.F_l_opened sc_l_opened (by decide) (fun args n P PX h => ?_) ?_
  · unfold m_l_opened at h; split at h
    all_goals first | exact ⟨_, rfl⟩ | exact False.elim h
  · rintro args ⟨house, rfl⟩ cdv A outer s H E Wx hg hr tk po
    show SG _ _ _ _ _ EnT (d_l_opened house)
    unfold d_l_opened
    exact (sg_retT (e_tupL (al_cons ((k_dict rfl (T.z_dict) ((o_list (T.z_list) (e_ix (e_nm 0) (e_int))).e)).e) (al_cons ((o_lcQ (own := [("_law_mark", 1)]) (t := (.nm 1)) (f := (fun y : D => y)) (mu := ret) (ee := (fun a ρ => ρ.set 1 (.d a))) seqT_map (fun x ρ => setT_1 1 (fun y : D => y) x ρ) rfl nd (w_seqZ (e_ix (e_nm 0) (e_int))) (blkOk_by (own := [("_law_mark", 1)]) (N := sc_l_opened_N) (sc := defScope s_l_opened) (by decide +kernel)) (fun _ _ _ _ _ => g_nm 1 nd) (fun _ _ _ _ _ => ts_nil) (fun _ _ _ _ _ => e_tupL (al_cons (e_ix (e_nm 1) (e_int)) (al_cons ((k_dict rfl (T.z_dict) ((o_list (T.z_list) (e_ix (e_nm 1) (e_int))).e)).e) (al_nil))))).e) (al_nil)))) rfl (fun _ => rfl))
end
end Q31

namespace Q31
open PySem PySem.Spec L2 PL
section
variable {P : Program} {w : World} {K : PySem.W.Frag} {mg : Str → Option Value} {base : Heap} (T : Facts K mg)
include T
set_option maxHeartbeats 0 in
theorem ok_l_shut : FnG P w K mg base 1 T.f_l_shut T.d_l_shut ["_law_house"] (spM ((penG.wt T.tb mg).wc false) K mg 1 m_l_shut) := by
  have nd := sc_l_shut.nd
  refine fn_okG (m := m_l_shut) (Sh := fun args => ∃ house : D, args = [.d house]) T.F_l_shut sc_l_shut (by decide) (fun args n P PX h => ?_) ?_
  · unfold m_l_shut at h; split at h
    all_goals first | exact ⟨_, rfl⟩ | exact False.elim h
  · rintro args ⟨house, rfl⟩ cdv A outer s H E Wx hg hr tk po
    show SG _ _ _ _ _ EnT (d_l_shut house)
    unfold d_l_shut
    exact (sg_asgLc (ρ' := fun pile => [.d house, .d (.lst pile), .un]) (own := [("_law_mark", 2)]) (t := (.nm 2)) (f := (fun y : D => y)) (mu := ret) (ee := (fun a ρ => ρ.set 2 (.d a))) 1 3 seqT_map (fun x ρ => setT_1 2 (fun y : D => y) x ρ) rfl nd (w_seqZ (e_ix (e_nm 0) (e_int))) (blkOk_by (own := [("_law_mark", 2)]) (N := sc_l_shut_N) (sc := defScope s_l_shut) (by decide +kernel)) (fun _ _ _ _ _ => g_nm 2 nd) (fun _ _ _ _ _ => ts_nil) (fun _ _ _ _ _ => e_tupL (al_cons (e_ix (e_nm 2) (e_int)) (al_cons (e_tuple (T.z_tuple) ((o_sortItems rfl (T.z_sorted) (e_ix (e_nm 2) (e_int))).e)) (al_nil)))) rfl rfl (by decide) (fun _ => rfl) (fun pile => sg_retT (e_tupL (al_cons (e_tuple (T.z_tuple) ((o_sortItems rfl (T.z_sorted) (e_ix (e_nm 0) (e_int))).e)) (al_cons (e_tuple (T.z_tuple) (e_nm 1)) (al_nil)))) rfl (fun _ => rfl)))
end
end Q31

namespace Q31
open PySem PySem.Spec L2 PL
section
variable {P : Program} {w : World} {K : PySem.W.Frag} {mg : Str → Option Value} {base : Heap} (T : Facts K mg)
include T
set_option maxHeartbeats 0 in
theorem ok_l_sides : FnG P w K mg base 1 T.f_l_sides T.d_l_sides ["_law_number", "_law_a", "_law_b", "_law_one", "_law_other"] (spM ((penG.wt T.tb mg).wc false) K mg 5 m_l_sides) := by
  have nd := sc_l_sides.nd
  refine fn_okG (m := m_l_sides) (Sh := fun args => ∃ number : Int, ∃ a : D, ∃ b : D, ∃ one : D, ∃ other : D, args = [.d (.int number), .d a, .d b, .d one, .d other]) T.F_l_sides sc_l_sides (by decide) (fun args n P PX h => ?_) ?_
  · unfold m_l_sides at h; split at h
    all_goals first | exact ⟨_, _, _, _, _, rfl⟩ | exact False.elim h
  · rintro args ⟨number, a, b, one, other, rfl⟩ cdv A outer s H E Wx hg hr tk po
    show SG _ _ _ _ _ EnT (d_l_sides number a b one other)
    unfold d_l_sides
    exact (sg_if ((tw_or ((tw_and (t_cmp (cm_in) (e_nm 0) (e_tupL (al_cons (e_int) (al_cons (e_int) (al_nil))))) (tw_and1 (t_cmp (cm_eq (u64 hr)) (e_nm 1) (e_nm 2)))).t) (tw_or ((tw_and (t_cmp (cm_eqI (u64 hr)) (e_nm 0) (e_int)) (tw_and1 (t_cmp (cm_ne (u64 hr)) (e_ix (e_nm 3) (e_int)) (e_ix (e_nm 4) (e_int))))).t) (tw_or1 ((tw_and (t_cmp (cm_eqI (u64 hr)) (e_nm 0) (e_int)) (tw_and1 (t_cmp (cm_eq (u64 hr)) (e_ix (e_nm 3) (e_int)) (e_ix (e_nm 4) (e_int))))).t)))).t) rfl
    (sg_retP (d := .non) (e_non) rfl rfl)
    (sg_push (sg_eq (sg_par3 (m0 := ret ()) (f1 := fun _ => (.tup [(.str (Str.ofString "mark")), a])) (f2 := fun _ => (.tup [(.str (Str.ofString "back")), a])) (f3 := fun _ => (.tup [(.str (Str.ofString "keep")), a])) (k := fun _ => bnd (addL [(.lst [(.tup [(.str (Str.ofString "mark")), a]), (.tup [(.str (Str.ofString "keep")), a])]), (.lst [(.tup [(.str (Str.ofString "mark")), a]), (.tup [(.str (Str.ofString "back")), a])]), (.lst [one, other]), (.lst [one, other]), (.lst [one, (.tup [(.str (Str.ofString "keep")), a])]), (.lst [one, (.tup [(.str (Str.ofString "back")), a])]), (.lst [(.tup [(.str (Str.ofString "mark")), b]), (.tup [(.str (Str.ofString "keep")), a])])] [(.lst [(.tup [(.str (Str.ofString "mark")), b]), (.tup [(.str (Str.ofString "back")), a])]), (.lst [(.tup [(.str (Str.ofString "back")), a]), (.tup [(.str (Str.ofString "keep")), a]), (.tup [(.str (Str.ofString "back")), b])]), (.lst [(.tup [(.str (Str.ofString "back")), a]), (.tup [(.str (Str.ofString "keep")), a]), (.tup [(.str (Str.ofString "mark")), a])]), (.lst [one, (.tup [(.str (Str.ofString "mark")), a]), one])]) fun left =>
    bnd (addL [(.lst []), (.lst [(.tup [(.str (Str.ofString "mark")), a])]), (.lst [other]), (.lst [other, one]), (.lst [(.tup [(.str (Str.ofString "keep")), a]), one]), (.lst [(.tup [(.str (Str.ofString "back")), a])]), (.lst [(.tup [(.str (Str.ofString "keep")), a])]), (.lst [(.tup [(.str (Str.ofString "back")), a])]), (.lst [(.tup [(.str (Str.ofString "keep")), a]), (.tup [(.str (Str.ofString "back")), b])]), (.lst [(.tup [(.str (Str.ofString "back")), a])])] [(.lst [one, (.tup [(.str (Str.ofString "mark")), a])])]) fun right =>
    bnd (ixD (.lst left) (.int (number - 1))) fun y4 => bnd (tupD y4) fun t => bnd (ixD (.lst right) (.int (number - 1))) fun y5 => bnd (tupD y5) fun t1 => ret (.tup [t, t1])) (ρ' := fun _ => [.d (.int number), .d a, .d b, .d one, .d other, .d (.tup [(.str (Str.ofString "mark")), a]), .d (.tup [(.str (Str.ofString "back")), a]), .d (.tup [(.str (Str.ofString "keep")), a]), .un, .un]) 5 6 7 10 (al_cons (e_tupL (al_cons (e_str (x := Str.ofString "mark")) (al_cons (e_nm 1) (al_nil)))) (al_cons (e_tupL (al_cons (e_str (x := Str.ofString "back")) (al_cons (e_nm 1) (al_nil)))) (al_cons (e_tupL (al_cons (e_str (x := Str.ofString "keep")) (al_cons (e_nm 1) (al_nil)))) (al_nil)))) rfl nd rfl (fun _ _ _ _ _ => rfl) rfl (by decide) (by decide) (by decide) (by decide) (by decide) (by decide) (fun _ => rfl) (fun _ => sg_asgP (d := (.lst [(.lst [(.tup [(.str (Str.ofString "mark")), a]), (.tup [(.str (Str.ofString "keep")), a])]), (.lst [(.tup [(.str (Str.ofString "mark")), a]), (.tup [(.str (Str.ofString "back")), a])]), (.lst [one, other]), (.lst [one, other]), (.lst [one, (.tup [(.str (Str.ofString "keep")), a])]), (.lst [one, (.tup [(.str (Str.ofString "back")), a])]), (.lst [(.tup [(.str (Str.ofString "mark")), b]), (.tup [(.str (Str.ofString "keep")), a])])])) (ρ' := [.d (.int number), .d a, .d b, .d one, .d other, .d (.tup [(.str (Str.ofString "mark")), a]), .d (.tup [(.str (Str.ofString "back")), a]), .d (.tup [(.str (Str.ofString "keep")), a]), .d (.lst [(.lst [(.tup [(.str (Str.ofString "mark")), a]), (.tup [(.str (Str.ofString "keep")), a])]), (.lst [(.tup [(.str (Str.ofString "mark")), a]), (.tup [(.str (Str.ofString "back")), a])]), (.lst [one, other]), (.lst [one, other]), (.lst [one, (.tup [(.str (Str.ofString "keep")), a])]), (.lst [one, (.tup [(.str (Str.ofString "back")), a])]), (.lst [(.tup [(.str (Str.ofString "mark")), b]), (.tup [(.str (Str.ofString "keep")), a])])]), .un]) 8 ((o_lstL (al_cons ((o_lstL (al_cons (e_nm 5) (al_cons (e_nm 7) (al_nil)))).e) (al_cons ((o_lstL (al_cons (e_nm 5) (al_cons (e_nm 6) (al_nil)))).e) (al_cons ((o_lstL (al_cons (e_nm 3) (al_cons (e_nm 4) (al_nil)))).e) (al_cons ((o_lstL (al_cons (e_nm 3) (al_cons (e_nm 4) (al_nil)))).e) (al_cons ((o_lstL (al_cons (e_nm 3) (al_cons (e_nm 7) (al_nil)))).e) (al_cons ((o_lstL (al_cons (e_nm 3) (al_cons (e_nm 6) (al_nil)))).e) (al_cons ((o_lstL (al_cons (e_tupL (al_cons (e_str (x := Str.ofString "mark")) (al_cons (e_nm 2) (al_nil)))) (al_cons (e_nm 7) (al_nil)))).e) (al_nil))))))))).e) (g_nm 8 nd) rfl rfl (sg_asg (f := .lst) (ρ' := fun left => [.d (.int number), .d a, .d b, .d one, .d other, .d (.tup [(.str (Str.ofString "mark")), a]), .d (.tup [(.str (Str.ofString "back")), a]), .d (.tup [(.str (Str.ofString "keep")), a]), .d (.lst left), .un]) 8 10 (e_add (e_nm 8) ((o_lstL (al_cons ((o_lstL (al_cons (e_tupL (al_cons (e_str (x := Str.ofString "mark")) (al_cons (e_nm 2) (al_nil)))) (al_cons (e_nm 6) (al_nil)))).e) (al_cons ((o_lstL (al_cons (e_nm 6) (al_cons (e_nm 7) (al_cons (e_tupL (al_cons (e_str (x := Str.ofString "back")) (al_cons (e_nm 2) (al_nil)))) (al_nil))))).e) (al_cons ((o_lstL (al_cons (e_nm 6) (al_cons (e_nm 7) (al_cons (e_nm 5) (al_nil))))).e) (al_cons ((o_lstL (al_cons (e_nm 3) (al_cons (e_nm 5) (al_cons (e_nm 3) (al_nil))))).e) (al_nil)))))).e)) (g_nm 8 nd) rfl lst_inj rfl (by decide) (fun _ => rfl) (fun left => sg_asgP (d := (.lst [(.lst []), (.lst [(.tup [(.str (Str.ofString "mark")), a])]), (.lst [other]), (.lst [other, one]), (.lst [(.tup [(.str (Str.ofString "keep")), a]), one]), (.lst [(.tup [(.str (Str.ofString "back")), a])]), (.lst [(.tup [(.str (Str.ofString "keep")), a])]), (.lst [(.tup [(.str (Str.ofString "back")), a])]), (.lst [(.tup [(.str (Str.ofString "keep")), a]), (.tup [(.str (Str.ofString "back")), b])]), (.lst [(.tup [(.str (Str.ofString "back")), a])])])) (ρ' := [.d (.int number), .d a, .d b, .d one, .d other, .d (.tup [(.str (Str.ofString "mark")), a]), .d (.tup [(.str (Str.ofString "back")), a]), .d (.tup [(.str (Str.ofString "keep")), a]), .d (.lst left), .d (.lst [(.lst []), (.lst [(.tup [(.str (Str.ofString "mark")), a])]), (.lst [other]), (.lst [other, one]), (.lst [(.tup [(.str (Str.ofString "keep")), a]), one]), (.lst [(.tup [(.str (Str.ofString "back")), a])]), (.lst [(.tup [(.str (Str.ofString "keep")), a])]), (.lst [(.tup [(.str (Str.ofString "back")), a])]), (.lst [(.tup [(.str (Str.ofString "keep")), a]), (.tup [(.str (Str.ofString "back")), b])]), (.lst [(.tup [(.str (Str.ofString "back")), a])])])]) 9 ((o_lstL (al_cons ((o_lstL (al_nil)).e) (al_cons ((o_lstL (al_cons (e_nm 5) (al_nil))).e) (al_cons ((o_lstL (al_cons (e_nm 4) (al_nil))).e) (al_cons ((o_lstL (al_cons (e_nm 4) (al_cons (e_nm 3) (al_nil)))).e) (al_cons ((o_lstL (al_cons (e_nm 7) (al_cons (e_nm 3) (al_nil)))).e) (al_cons ((o_lstL (al_cons (e_nm 6) (al_nil))).e) (al_cons ((o_lstL (al_cons (e_nm 7) (al_nil))).e) (al_cons ((o_lstL (al_cons (e_nm 6) (al_nil))).e) (al_cons ((o_lstL (al_cons (e_nm 7) (al_cons (e_tupL (al_cons (e_str (x := Str.ofString "back")) (al_cons (e_nm 2) (al_nil)))) (al_nil)))).e) (al_cons ((o_lstL (al_cons (e_nm 6) (al_nil))).e) (al_nil)))))))))))).e) (g_nm 9 nd) rfl rfl (sg_asg (f := .lst) (ρ' := fun right => [.d (.int number), .d a, .d b, .d one, .d other, .d (.tup [(.str (Str.ofString "mark")), a]), .d (.tup [(.str (Str.ofString "back")), a]), .d (.tup [(.str (Str.ofString "keep")), a]), .d (.lst left), .d (.lst right)]) 9 10 (e_add (e_nm 9) ((o_lstL (al_cons ((o_lstL (al_cons (e_nm 3) (al_cons (e_nm 5) (al_nil)))).e) (al_nil))).e)) (g_nm 9 nd) rfl lst_inj rfl (by decide) (fun _ => rfl) (fun right => sg_retT (e_tupL (al_cons (e_tuple (T.z_tuple) (e_ix (e_nm 8) (e_sub (e_nm 0) (e_int)))) (al_cons (e_tuple (T.z_tuple) (e_ix (e_nm 9) (e_sub (e_nm 0) (e_int)))) (al_nil)))) rfl (fun _ => rfl))))))) (bnd_ret _ _))))
end
end Q31

namespace Q31
open PySem PySem.Spec L2 PL
section
variable {P : Program} {w : World} {K : PySem.W.Frag} {mg : Str → Option Value} {base : Heap} (T : Facts K mg)
include T
set_option maxHeartbeats 0 in
theorem ok_l_write : FnG P w K mg base 3 T.f_l_write T.d_l_write ["_law_pen_here", "_law_keys"] (spM ((penG.wt T.tb mg).wc false) K mg 2 m_l_write) := by
  have nd := sc_l_write.nd
  refine fn_okG (m := m_l_write) (Sh := fun args => ∃ keys : D, args = [.pen, .d keys]) T.F_l_write sc_l_write (by decide) (fun args n P PX h => ?_) ?_
  · unfold m_l_write at h; split at h
    all_goals first | exact ⟨_, rfl⟩ | exact False.elim h
  · rintro args ⟨keys, rfl⟩ cdv A outer s H E Wx hg hr tk po
    show SG _ _ _ _ _ EnT (d_l_write keys)
    unfold d_l_write
    exact (sg_asg (f := (fun x => x)) (ρ' := fun key => [.pen, .d keys, .d key]) 2 3 (e_call (ps := ["_law_pen_here", "_law_some"]) ⟨ok_l_pick T, T.g_l_pick, T.F_l_pick.kp⟩ hg (hr.mono (by decide)) tk T.B_l_pick (v_pen 0 (v_cons (e_nm 1) (v_nil)))) (g_nm 2 nd) rfl id_inj rfl (by decide) (fun _ => rfl) (fun key => sg_retT (e_ix ((o_lstL (al_cons (e_tupL (al_cons (e_str (x := Str.ofString "set")) (al_cons (e_nm 2) (al_cons (e_call (ps := ["_law_pen_here"]) ⟨ok_l_value T, T.g_l_value, T.F_l_value.kp⟩ hg (hr.mono (by decide)) tk T.B_l_value (v_pen 0 (v_nil))) (al_nil))))) (al_cons (e_tupL (al_cons (e_str (x := Str.ofString "del")) (al_cons (e_nm 2) (al_nil)))) (al_nil)))).e) (e_toint (T.z_int) (e_cmp (cm_eqI (u64 hr)) (e_call (ps := ["_law_pen_here", "_law_many"]) ⟨ok_l_draw T, T.g_l_draw, T.F_l_draw.kp⟩ hg (hr.mono (by decide)) tk T.B_l_draw (v_pen 0 (v_cons (e_int) (v_nil)))) (e_int)))) rfl (fun _ => rfl)))
end
end Q31

namespace Q31
open PySem PySem.Spec L2 PL
section
variable {P : Program} {w : World} {K : PySem.W.Frag} {mg : Str → Option Value} {base : Heap} (T : Facts K mg)
include T
set_option maxHeartbeats 0 in
theorem ok_l_alike : FnG P w K mg base 8 T.f_l_alike T.d_l_alike ["_law_house", "_law_mine", "_law_yours"] (spM ((penG.wt T.tb mg).wc false) K mg 3 m_l_alike) := by
  have nd := sc_l_alike.nd
  refine fn_okG (m := m_l_alike) (Sh := fun args => ∃ house : D, ∃ mine : D, ∃ yours : D, args = [.d house, .d mine, .d yours]) T.F_l_alike sc_l_alike (by decide) (fun args n P PX h => ?_) ?_
  · unfold m_l_alike at h; split at h
    all_goals first | exact ⟨_, _, _, rfl⟩ | exact False.elim h
  · rintro args ⟨house, mine, yours, rfl⟩ cdv A outer s H E Wx hg hr tk po
    show SG _ _ _ _ _ EnT (d_l_alike house mine yours)
    unfold d_l_alike
    exact (sg_asg (f := .lst) (ρ' := fun found => [.d house, .d mine, .d yours, .d (.lst found), .un]) 3 5 ((o_lstL (al_cons (e_call (ps := ["state", "commands"]) ⟨ok_outcome T, T.g_outcome, T.F_outcome.kp⟩ hg (hr.mono (by decide)) tk T.B_outcome (v_cons (e_nm 0) (v_cons (e_nm 1) (v_nil)))) (al_cons (e_call (ps := ["state", "commands"]) ⟨ok_outcome T, T.g_outcome, T.F_outcome.kp⟩ hg (hr.mono (by decide)) tk T.B_outcome (v_cons (e_nm 0) (v_cons (e_nm 2) (v_nil)))) (al_nil)))).e) (g_nm 3 nd) rfl lst_inj rfl (by decide) (fun _ => rfl) (fun found => sg_asg (f := (fun x => x)) (ρ' := fun due => [.d house, .d mine, .d yours, .d (.lst found), .d due]) 4 5 (e_call (ps := ["_law_house", "_law_deeds"]) ⟨ok_l_run T, T.g_l_run, T.F_l_run.kp⟩ hg (hr.mono (by decide)) tk T.B_l_run (v_cons (e_call (ps := ["_law_house"]) ⟨ok_l_opened T, T.g_l_opened, T.F_l_opened.kp⟩ hg (hr.mono (by decide)) tk T.B_l_opened (v_cons (e_nm 0) (v_nil))) (v_cons (e_nm 1) (v_nil)))) (g_nm 4 nd) rfl id_inj rfl (by decide) (fun _ => rfl) (fun due => sg_ifP (t_cmp (cm_is) (e_nm 4) (e_non)) rfl
    (sg_retT (e_and (e_cmp (cm_eq (u64 hr)) (e_ix (e_ix (e_nm 3) (e_int)) (e_int)) (e_str (x := Str.ofString "refused"))) (e_one (e_cmp (cm_eq (u64 hr)) (e_ix (e_ix (e_nm 3) (e_int)) (e_int)) (e_str (x := Str.ofString "refused"))))) rfl (fun _ => rfl))
    (sg_push (sg_retT (e_cmp (cm_eq (u64 hr)) (e_nm 3) ((o_lstL (al_cons (e_tupL (al_cons (e_str (x := Str.ofString "done")) (al_cons (e_call (ps := ["_law_house"]) ⟨ok_l_shut T, T.g_l_shut, T.F_l_shut.kp⟩ hg (hr.mono (by decide)) tk T.B_l_shut (v_cons (e_nm 4) (v_nil))) (al_nil)))) (al_cons (e_tupL (al_cons (e_str (x := Str.ofString "done")) (al_cons (e_call (ps := ["_law_house"]) ⟨ok_l_shut T, T.g_l_shut, T.F_l_shut.kp⟩ hg (hr.mono (by decide)) tk T.B_l_shut (v_cons (e_nm 4) (v_nil))) (al_nil)))) (al_nil)))).e)) rfl (fun _ => rfl))))))
end
end Q31

namespace Q31
open PySem PySem.Spec L2 PL
section
variable {P : Program} {w : World} {K : PySem.W.Frag} {mg : Str → Option Value} {base : Heap} (T : Facts K mg)
include T
set_option maxHeartbeats 0 in
theorem ok_law (holds : d_law n0 (fun d _ => d = .bl true) (fun _ _ => False)) : FnG P w K mg base 9 T.f_law T.d_law ["_law_script"] (spLaw K) :=
  have nd := sc_law.nd
  law_defK ((penG.wt T.tb mg).wc false) (b := d_law) (k := 8) (NR := ["_law_turn", "_law_words_here", "_law_keys", "_law_house", "_law_number", "_law_a", "_law_b", "_law_one", "_law_other", "_law_sides_here", "_law_head", "_law_tail", "_law_rest", "_law_start", "_law_mine", "_law_yours"]) T.F_law sc_law rfl rfl rfl rfl (by first | exact .inl rfl | exact .inr rfl) (by decide) (by decide) (by decide) ((ok_l_pen T.F_l_pen T.z_list).mono (by decide)) T.g_l_pen T.F_l_pen.kp T.B_l_pen (fun cdv A outer s H E Wx hg hr tk po => by
    unfold d_law
    exact (sg_forI (t := (.nm 2)) (f := D.int) (emb := (fun j : Unit => [.un, .pen, .un, .un, .un, .un, .un, .un, .un, .un, .un, .un, .un, .un, .un, .un, .un, .un])) (e := (fun a j => [.un, .pen, .d (.int a), .un, .un, .un, .un, .un, .un, .un, .un, .un, .un, .un, .un, .un, .un, .un])) po rfl (w_rngK (w_rng1Z (T.z_range) (e_int))) (g_nm 2 nd) rfl (fun _ => rfl) int_inj (Le.same (Le.same (Le.same (Le.same (Le.same (Le.same (Le.same (Le.same (Le.same (Le.same (Le.same (Le.same (Le.same (Le.same (Le.same (Le.same (Le.same (Le.same (Le.nil))))))))))))))))))) (fun x j => rfl) (fun j a b h => int_inj _ _ (by have q := congrArg (·[2]?) h; exact SV.d.inj (Option.some.inj q)))
    (fun turn j => sg_asg (f := (fun x => x)) (ρ' := fun words => [.un, .pen, .d (.int turn), .d words, .un, .un, .un, .un, .un, .un, .un, .un, .un, .un, .un, .un, .un, .un]) 3 18 (e_call (ps := ["_law_pen_here", "_law_many"]) ⟨ok_l_words T, T.g_l_words, T.F_l_words.kp⟩ hg (hr.mono (by decide)) tk T.B_l_words (v_pen 1 (v_cons (e_int) (v_nil)))) (g_nm 3 nd) rfl id_inj rfl (by decide) (fun _ => rfl) (fun words => sg_asg (f := (fun x => x)) (ρ' := fun keys => [.un, .pen, .d (.int turn), .d words, .d keys, .un, .un, .un, .un, .un, .un, .un, .un, .un, .un, .un, .un, .un]) 4 18 (e_call (ps := ["_law_pen_here", "_law_many"]) ⟨ok_l_words T, T.g_l_words, T.F_l_words.kp⟩ hg (hr.mono (by decide)) tk T.B_l_words (v_pen 1 (v_cons (e_int) (v_nil)))) (g_nm 4 nd) rfl id_inj rfl (by decide) (fun _ => rfl) (fun keys => sg_asg (f := (fun x => x)) (ρ' := fun house => [.un, .pen, .d (.int turn), .d words, .d keys, .d house, .un, .un, .un, .un, .un, .un, .un, .un, .un, .un, .un, .un]) 5 18 (e_call (ps := ["_law_pen_here", "_law_words_here", "_law_keys", "_law_most"]) ⟨ok_l_state T, T.g_l_state, T.F_l_state.kp⟩ hg (hr.mono (by decide)) tk T.B_l_state (v_pen 1 (v_cons (e_nm 3) (v_cons (e_nm 4) (v_cons (e_int) (v_nil)))))) (g_nm 5 nd) rfl id_inj rfl (by decide) (fun _ => rfl) (fun house => sg_asg (f := .int) (ρ' := fun number => [.un, .pen, .d (.int turn), .d words, .d keys, .d house, .d (.int number), .un, .un, .un, .un, .un, .un, .un, .un, .un, .un, .un]) 6 18 (e_add (e_int) (e_call (ps := ["_law_pen_here", "_law_many"]) ⟨ok_l_draw T, T.g_l_draw, T.F_l_draw.kp⟩ hg (hr.mono (by decide)) tk T.B_l_draw (v_pen 1 (v_cons (e_int) (v_nil))))) (g_nm 6 nd) rfl int_inj rfl (by decide) (fun _ => rfl) (fun number => sg_par2 (f1 := fun a : D × D => a.1) (f2 := fun a : D × D => a.2) (ρ' := fun p => [.un, .pen, .d (.int turn), .d words, .d keys, .d house, .d (.int number), .d p.1, .d p.2, .un, .un, .un, .un, .un, .un, .un, .un, .un]) 7 8 18 (al_cons (e_call (ps := ["_law_pen_here", "_law_some"]) ⟨ok_l_pick T, T.g_l_pick, T.F_l_pick.kp⟩ hg (hr.mono (by decide)) tk T.B_l_pick (v_pen 1 (v_cons (e_nm 3) (v_nil)))) (al_cons (e_call (ps := ["_law_pen_here", "_law_some"]) ⟨ok_l_pick T, T.g_l_pick, T.F_l_pick.kp⟩ hg (hr.mono (by decide)) tk T.B_l_pick (v_pen 1 (v_cons (e_nm 3) (v_nil)))) (al_nil))) rfl nd rfl (fun a b h1 h2 => Prod.ext (id_inj _ _ h1) (id_inj _ _ h2)) rfl (by decide) (by decide) (by decide) (fun _ => rfl) (fun p => sg_par2 (f1 := fun a : D × D => a.1) (f2 := fun a : D × D => a.2) (ρ' := fun p1 => [.un, .pen, .d (.int turn), .d words, .d keys, .d house, .d (.int number), .d p.1, .d p.2, .d p1.1, .d p1.2, .un, .un, .un, .un, .un, .un, .un]) 9 10 18 (al_cons (e_call (ps := ["_law_pen_here", "_law_keys"]) ⟨ok_l_write T, T.g_l_write, T.F_l_write.kp⟩ hg (hr.mono (by decide)) tk T.B_l_write (v_pen 1 (v_cons (e_nm 4) (v_nil)))) (al_cons (e_call (ps := ["_law_pen_here", "_law_keys"]) ⟨ok_l_write T, T.g_l_write, T.F_l_write.kp⟩ hg (hr.mono (by decide)) tk T.B_l_write (v_pen 1 (v_cons (e_nm 4) (v_nil)))) (al_nil))) rfl nd rfl (fun a b h1 h2 => Prod.ext (id_inj _ _ h1) (id_inj _ _ h2)) rfl (by decide) (by decide) (by decide) (fun _ => rfl) (fun p1 => sg_asg (f := (fun x => x)) (ρ' := fun sides => [.un, .pen, .d (.int turn), .d words, .d keys, .d house, .d (.int number), .d p.1, .d p.2, .d p1.1, .d p1.2, .d sides, .un, .un, .un, .un, .un, .un]) 11 18 (e_call (ps := ["_law_number", "_law_a", "_law_b", "_law_one", "_law_other"]) ⟨ok_l_sides T, T.g_l_sides, T.F_l_sides.kp⟩ hg (hr.mono (by decide)) tk T.B_l_sides (v_cons (e_nm 6) (v_cons (e_nm 7) (v_cons (e_nm 8) (v_cons (e_nm 9) (v_cons (e_nm 10) (v_nil))))))) (g_nm 11 nd) rfl id_inj rfl (by decide) (fun _ => rfl) (fun sides => sg_ifA (emb := (fun j1 : Int × D => [.un, .pen, .d (.int turn), .d words, .d keys, .d house, .d (.int j1.1), .d p.1, .d p.2, .d p1.1, .d p1.2, .d j1.2, .un, .un, .un, .un, .un, .un])) (t_cmp (cm_is) (e_nm 11) (e_non)) rfl
    (sg_asgP (d := (.int 9)) (ρ' := [.un, .pen, .d (.int turn), .d words, .d keys, .d house, .d (.int 9), .d p.1, .d p.2, .d p1.1, .d p1.2, .d sides, .un, .un, .un, .un, .un, .un]) 6 (e_int) (g_nm 6 nd) rfl rfl (sg_asg (f := (fun x => x)) (ρ' := fun sides1 => [.un, .pen, .d (.int turn), .d words, .d keys, .d house, .d (.int 9), .d p.1, .d p.2, .d p1.1, .d p1.2, .d sides1, .un, .un, .un, .un, .un, .un]) 11 18 (e_call (ps := ["_law_number", "_law_a", "_law_b", "_law_one", "_law_other"]) ⟨ok_l_sides T, T.g_l_sides, T.F_l_sides.kp⟩ hg (hr.mono (by decide)) tk T.B_l_sides (v_cons (e_int) (v_cons (e_nm 7) (v_cons (e_nm 8) (v_cons (e_nm 9) (v_cons (e_nm 10) (v_nil))))))) (g_nm 11 nd) rfl id_inj rfl (by decide) (fun _ => rfl) (fun sides1 => sg_nil ⟨(9, sides1), rfl, (Le.same (Le.same (Le.same (Le.same (Le.same (Le.same (Le.same (Le.same (Le.same (Le.same (Le.same (Le.same (Le.same (Le.same (Le.same (Le.same (Le.same (Le.same (Le.nil)))))))))))))))))))⟩)))
    (sg_nil ⟨(number, sides), rfl, (Le.same (Le.same (Le.same (Le.same (Le.same (Le.same (Le.same (Le.same (Le.same (Le.same (Le.same (Le.same (Le.same (Le.same (Le.same (Le.same (Le.same (Le.same (Le.nil)))))))))))))))))))⟩)
    (fun j1 => sg_asg (f := (fun x => x)) (ρ' := fun head => [.un, .pen, .d (.int turn), .d words, .d keys, .d house, .d (.int j1.1), .d p.1, .d p.2, .d p1.1, .d p1.2, .d j1.2, .d head, .un, .un, .un, .un, .un]) 12 18 (e_call (ps := ["_law_pen_here", "_law_words_here", "_law_keys", "_law_most"]) ⟨ok_l_commands T, T.g_l_commands, T.F_l_commands.kp⟩ hg (hr.mono (by decide)) tk T.B_l_commands (v_pen 1 (v_cons (e_nm 3) (v_cons (e_nm 4) (v_cons (e_int) (v_nil)))))) (g_nm 12 nd) rfl id_inj rfl (by decide) (fun _ => rfl) (fun head => sg_asg (f := (fun x => x)) (ρ' := fun tail => [.un, .pen, .d (.int turn), .d words, .d keys, .d house, .d (.int j1.1), .d p.1, .d p.2, .d p1.1, .d p1.2, .d j1.2, .d head, .d tail, .un, .un, .un, .un]) 13 18 (e_call (ps := ["_law_pen_here", "_law_words_here", "_law_keys", "_law_most"]) ⟨ok_l_commands T, T.g_l_commands, T.F_l_commands.kp⟩ hg (hr.mono (by decide)) tk T.B_l_commands (v_pen 1 (v_cons (e_nm 3) (v_cons (e_nm 4) (v_cons (e_int) (v_nil)))))) (g_nm 13 nd) rfl id_inj rfl (by decide) (fun _ => rfl) (fun tail => sg_if ((tw_or (t_cmp (cm_ne (u64 hr)) (e_call (ps := ["before", "after"]) ⟨ok_rule_of T, T.g_rule_of, T.F_rule_of.kp⟩ hg (hr.mono (by decide)) tk T.B_rule_of (v_cons (e_ix (e_nm 11) (e_int)) (v_cons (e_ix (e_nm 11) (e_int)) (v_nil)))) (e_nm 6)) (tw_or1 (t_cmp (cm_ne (u64 hr)) (e_call (ps := ["before", "after"]) ⟨ok_rule_of T, T.g_rule_of, T.F_rule_of.kp⟩ hg (hr.mono (by decide)) tk T.B_rule_of (v_cons (e_ix (e_nm 11) (e_int)) (v_cons (e_ix (e_nm 11) (e_int)) (v_nil)))) (e_nm 6)))).t) rfl
    (sg_retP (d := (.bl false)) (e_bl) rfl ⟨ret (.bl false), rfl, rfl⟩)
    (sg_push (sg_forIP (t := (.nm 14)) (f := (fun y : D => y)) (emb := (fun j2 : Unit => [.un, .pen, .d (.int turn), .d words, .d keys, .d house, .d (.int j1.1), .d p.1, .d p.2, .d p1.1, .d p1.2, .d j1.2, .d head, .d tail, .un, .un, .un, .un])) (e := (fun a j2 => [.un, .pen, .d (.int turn), .d words, .d keys, .d house, .d (.int j1.1), .d p.1, .d p.2, .d p1.1, .d p1.2, .d j1.2, .d head, .d tail, .d a, .un, .un, .un])) po rfl (w_seqZ (e_tupL (al_cons ((o_lstL (al_nil)).e) (al_cons (e_nm 13) (al_nil))))) (g_nm 14 nd) rfl seqT_map id_inj (Le.same (Le.same (Le.same (Le.same (Le.same (Le.same (Le.same (Le.same (Le.same (Le.same (Le.same (Le.same (Le.same (Le.same (Le.same (Le.same (Le.same (Le.same (Le.nil))))))))))))))))))) (fun x j => rfl) (fun j a b h => id_inj _ _ (by have q := congrArg (·[14]?) h; exact SV.d.inj (Option.some.inj q)))
    (fun restV j2 => sg_forIP (t := (.nm 15)) (f := (fun y : D => y)) (emb := (fun j3 : Unit => [.un, .pen, .d (.int turn), .d words, .d keys, .d house, .d (.int j1.1), .d p.1, .d p.2, .d p1.1, .d p1.2, .d j1.2, .d head, .d tail, .d restV, .un, .un, .un])) (e := (fun a j3 => [.un, .pen, .d (.int turn), .d words, .d keys, .d house, .d (.int j1.1), .d p.1, .d p.2, .d p1.1, .d p1.2, .d j1.2, .d head, .d tail, .d restV, .d a, .un, .un])) po rfl (w_seqZ (e_tupL (al_cons ((o_lstL (al_nil)).e) (al_cons (e_nm 12) (al_nil))))) (g_nm 15 nd) rfl seqT_map id_inj (Le.same (Le.same (Le.same (Le.same (Le.same (Le.same (Le.same (Le.same (Le.same (Le.same (Le.same (Le.same (Le.same (Le.same (Le.same (Le.same (Le.same (Le.same (Le.nil))))))))))))))))))) (fun x j => rfl) (fun j a b h => id_inj _ _ (by have q := congrArg (·[15]?) h; exact SV.d.inj (Option.some.inj q)))
    (fun startV j3 => sg_asg (f := (fun x => x)) (ρ' := fun mine => [.un, .pen, .d (.int turn), .d words, .d keys, .d house, .d (.int j1.1), .d p.1, .d p.2, .d p1.1, .d p1.2, .d j1.2, .d head, .d tail, .d restV, .d startV, .d mine, .un]) 16 18 (e_add (e_add (e_nm 15) ((o_list (T.z_list) (e_ix (e_nm 11) (e_int))).e)) (e_nm 14)) (g_nm 16 nd) rfl id_inj rfl (by decide) (fun _ => rfl) (fun mine => sg_asg (f := (fun x => x)) (ρ' := fun yours => [.un, .pen, .d (.int turn), .d words, .d keys, .d house, .d (.int j1.1), .d p.1, .d p.2, .d p1.1, .d p1.2, .d j1.2, .d head, .d tail, .d restV, .d startV, .d mine, .d yours]) 17 18 (e_add (e_add (e_nm 15) ((o_list (T.z_list) (e_ix (e_nm 11) (e_int))).e)) (e_nm 14)) (g_nm 17 nd) rfl id_inj rfl (by decide) (fun _ => rfl) (fun yours => sg_if (t_not (t_truth (e_call (ps := ["_law_house", "_law_mine", "_law_yours"]) ⟨ok_l_alike T, T.g_l_alike, T.F_l_alike.kp⟩ hg (hr.mono (by decide)) tk T.B_l_alike (v_cons (e_nm 5) (v_cons (e_nm 16) (v_cons (e_nm 17) (v_nil))))))) rfl
    (sg_retP (d := (.bl false)) (e_bl) rfl ⟨ret (.out (.out (.bl false))), ⟨ret (.out (.bl false)), ⟨ret (.bl false), rfl, rfl⟩, rfl⟩, rfl⟩)
    (sg_push (sg_nil ⟨(), rfl, (Le.same (Le.same (Le.same (Le.same (Le.same (Le.same (Le.same (Le.same (Le.same (Le.same (Le.same (Le.same (Le.same (Le.same (Le.same (Le.un (Le.un (Le.un (Le.nil)))))))))))))))))))⟩)))))
    (fun j4 => sg_nil ⟨(), rfl, (Le.same (Le.same (Le.same (Le.same (Le.same (Le.same (Le.same (Le.same (Le.same (Le.same (Le.same (Le.same (Le.same (Le.same (Le.un (Le.same (Le.same (Le.same (Le.nil)))))))))))))))))))⟩))
    (fun j5 => sg_nil ⟨(), rfl, (Le.same (Le.same (Le.un (Le.un (Le.un (Le.un (Le.un (Le.un (Le.un (Le.un (Le.un (Le.un (Le.un (Le.un (Le.same (Le.same (Le.same (Le.same (Le.nil)))))))))))))))))))⟩))))))))))))))
    (fun j6 => sg_retP (d := (.bl true)) (e_bl) rfl rfl))) holds
end
end Q31

namespace Q31
open PySem PySem.Spec L2 PL
/-! ### words, values, stores drawn -/
theorem pick_eq (xs : List D) : d_l_pick (.lst xs) = bnd (drw xs.length) fun r => ixD (.lst xs) (.int r) := by
  unfold d_l_pick
  rfl
theorem pick_gen {xs : List D} {Q : D → Prop} (h0 : 0 < xs.length) (h1 : xs.length < 1000) (hq : ∀ x ∈ xs, Q x) : Gen (d_l_pick (.lst xs)) 1 Q := by
  rw [pick_eq]
  refine Gen.dr (c := 0) (by omega) (by omega) fun r h2 h3 => Gen.pickL0 h2 h3 hq
theorem foldl_arr : ∀ (l : List (Array Nat)) (acc : Array Nat), (l.foldl (· ++ ·) acc).toList = acc.toList ++ (l.map Array.toList).flatten
  | [], acc => by simp
  | a :: l, acc => by
    rw [List.foldl_cons, foldl_arr l]
    simp
theorem mul_one (c : Nat) {n : Int} (h : 2 ≤ n) : Txt.mul (strL [c]) n = strL (List.replicate n.toNat c) := by
  refine str_ext ?_
  unfold Txt.mul
  rw [if_neg (by omega), if_neg (by rw [strL_len]; simp; omega)]
  show (List.foldl (· ++ ·) #[] _).toList = List.replicate n.toNat c
  rw [foldl_arr, List.map_replicate]
  show [] ++ (List.replicate n.toNat [c]).flatten = _
  rw [List.nil_append]
  induction n.toNat with
  | zero => rfl
  | succ k ih => rw [List.replicate_succ, List.flatten_cons, ih]; rfl
theorem rep_one (c : Nat) {n : Int} (h : n = 8 ∨ n = 7 ∨ n = 6) : repSD (.str (strL [c])) (.int n) = ret (.str (strL (List.replicate n.toNat c))) := by
  show bnd (repS (strL [c]) n) _ = _
  have hl : (strL [c]).length = 1 := strL_len [c]
  have : repS (strL [c]) n = ret (Txt.mul (strL [c]) n) := grd_pos ⟨⟨by rcases h with rfl | rfl | rfl <;> decide, fun _ _ => by rw [hl]; rcases h with rfl | rfl | rfl <;> decide, fun _ _ => by rw [hl]; rcases h with rfl | rfl | rfl <;> decide⟩, by
    rw [mul_one c (by omega), strL_len, List.length_replicate, sizeLine_eq]
    omega⟩ _
  rw [this, bnd_ret, mul_one c (by omega)]
/-- different words -/
def Lb3 (d : D) : Prop := ∃ ss : List Str, d = .lst (ss.map .str) ∧ ss.length = 3 ∧ ss.Nodup ∧ ∀ s ∈ ss, wordB (.str s) = true
theorem lb3 {x y z : List Nat} (h1 : x ≠ y) (h2 : x ≠ z) (h3 : y ≠ z) (w : ∀ l ∈ [x, y, z], wordB (.str (strL l)) = true) : Lb3 (.lst [.str (strL x), .str (strL y), .str (strL z)]) := by
  refine ⟨[strL x, strL y, strL z], rfl, rfl, ?_, fun s hs => ?_⟩
  · have n1 : strL x ≠ strL y := fun e => h1 (strL_inj e)
    have n2 : strL x ≠ strL z := fun e => h2 (strL_inj e)
    have n3 : strL y ≠ strL z := fun e => h3 (strL_inj e)
    simp [n1, n2, n3]
  · simp only [List.mem_cons, List.not_mem_nil, or_false] at hs
    rcases hs with rfl | rfl | rfl
    · exact w x (by simp)
    · exact w y (by simp)
    · exact w z (by simp)
def Wd (b k : Int) (d : D) : Prop := ∃ tl : List Nat, d = .str (strL ((97 + ((b + 7 * k) % 26).toNat) :: tl)) ∧ tl.length ≤ 7 ∧ ∀ c ∈ tl, lower c = true
theorem word_turn {b k : Int} (hk : 0 ≤ k) (hk2 : k < 3) (hb : 0 ≤ b) (hb2 : b < 26) : Gen (bnd (bnd (drw 8) fun r2 => bnd (rngI r2) fun isV3 => mapP (fun j1 => bnd (drw 26) fun r3 => ixD (.str (Str.ofString "abcdefghijklmnopqrstuvwxyz")) (.int r3)) isV3) fun tail =>
    bnd (mulI 7 k) fun i2 => bnd (modI (b + i2) 26) fun i3 => bnd (ixD (.str (Str.ofString "abcdefghijklmnopqrstuvwxyz")) (.int i3)) fun y3 => bnd (joinD (.str (Str.ofString "")) (.lst tail)) fun j2 => addD y3 j2) 8 (Wd b k) := by
  rw [bnd_bnd]
  refine (Gen.dr (c := 7) (by decide) (by decide) fun r r0 r1 => ?_).up (by decide)
  rw [rngI_ret (by omega), bnd_ret]
  refine (Gen.bind (c := 7) (d := 0) ((Gen.map (c := 1) (Q := fun y => ∃ k, y = .str ⟨#[k]⟩ ∧ lower k = true) 7 (by rw [rngZ_len]; omega) fun x _ => ?_).up (by decide)) fun ys ⟨h1, h2⟩ => ?_).up (by decide)
  · refine Gen.dr (c := 0) (by decide) (by decide) fun q h2 h3 => ?_
    rw [abc_ix h2 h3]
    exact Gen.ret ⟨_, rfl, letter_low h2 h3⟩
  · obtain ⟨ks, rfl, e, hp⟩ := signs_ok h2
    rw [List.length_map, rngZ_len] at h1
    have m1 : 0 ≤ (b + 7 * k) % 26 := Int.emod_nonneg _ (by decide)
    have m2 : (b + 7 * k) % 26 < 26 := Int.emod_lt_of_pos _ (by decide)
    rw [mulI_ok (by omega), bnd_ret]
    unfold modI
    rw [grd_pos (by decide), bnd_ret, abc_ix m1 m2, bnd_ret, joinD_signs ks (by omega), bnd_ret, chS_strL]
    show Gen (addD (.str (strL [97 + ((b + 7 * k) % 26).toNat])) (.str (strL ks))) _ _
    rw [addD_strL (by simp only [List.length_singleton]; omega)]
    exact Gen.ret ⟨ks, rfl, by omega, hp⟩
theorem Wd.ne {b i j : Int} {x y : List Nat} (h : (b + 7 * i) % 26 ≠ (b + 7 * j) % 26) : (97 + ((b + 7 * i) % 26).toNat) :: x ≠ (97 + ((b + 7 * j) % 26).toNat) :: y := fun e => by
  have m1 : 0 ≤ (b + 7 * i) % 26 := Int.emod_nonneg _ (by decide)
  have m2 : 0 ≤ (b + 7 * j) % 26 := Int.emod_nonneg _ (by decide)
  have := (List.cons.inj e).1
  omega
def All2 {α : Type} (Q : α → D → Prop) : List α → List D → Prop
  | [], ys => ys = []
  | x :: xs, ys => ∃ y r, ys = y :: r ∧ Q x y ∧ All2 Q xs r
theorem gather_gen {α : Type} {mk : α → W D} {Q : α → D → Prop} {c d : Nat} {k : List D → W D} {R : D → Prop} : ∀ (xs : List α) (j0 : List D), (∀ x ∈ xs, Gen (mk x) c (Q x)) → j0.length + xs.length < 1000000 → (∀ ys, All2 Q xs ys → Gen (k (j0 ++ ys)) d R) →
    Gen (forT (fun x j => bnd (mk x) fun a => roomL j (ret (.go (j ++ [a])))) k xs j0) (c * xs.length + d) R
  | [], j0, _, _, hk => by
    have := hk [] rfl
    rw [List.append_nil] at this
    exact this.up (by omega)
  | x :: xs, j0, hm, hl, hk => by
    rw [List.length_cons] at hl
    show Gen (bnd (bnd (mk x) fun a => roomL j0 (ret (PL.Step.go (j0 ++ [a])))) _) _ _
    rw [bnd_bnd]
    refine (Gen.bind (c := c) (d := c * xs.length + d) (hm x List.mem_cons_self) fun a ha => ?_).up (by rw [List.length_cons, Nat.mul_add]; omega)
    rw [room_pos (by omega), bnd_ret]
    refine gather_gen xs (j0 ++ [a]) (fun y hy => hm y (List.mem_cons_of_mem _ hy)) (by rw [List.length_append]; simp only [List.length_cons, List.length_nil]; omega) fun ys hys => ?_
    rw [List.append_assoc]
    exact hk (a :: ys) ⟨a, ys, rfl, ha, hys⟩
theorem words_gen : Gen (d_l_words 3) 30 Lb3 := by
  unfold d_l_words
  refine (Gen.dr (c := 29) (by decide) (by decide) fun way q0 q1 => ?_).up (by decide)
  refine (Gen.dr (c := 28) (by decide) (by decide) fun b b0 b1 => ?_).up (by decide)
  rw [rngI_ret (by decide), bnd_ret, bnd_ret, bnd_ret, show rngZ 0 (3 : Int).toNat = [0, 1, 2] from rfl]
  refine (Gen.cond (c := 0) (d := 28) (fun _ => ?_) fun _ => ?_).up (by decide)
  · rw [mapP_ret (g := fun k => .str (chS (97 + k.toNat))) (Nat.le_of_ble_eq_true rfl) (fun x hx => by
      simp only [List.mem_cons, List.not_mem_nil, or_false] at hx
      rcases hx with rfl | rfl | rfl <;> exact abc_ix (by decide) (by decide)), bnd_ret]
    refine Gen.ret ?_
    show Lb3 (.lst [.str (strL [97]), .str (strL [98]), .str (strL [99])])
    exact lb3 (by decide) (by decide) (by decide) (by decide +kernel)
  · refine (Gen.cond (c := 0) (d := 28) (fun _ => ?_) fun _ => ?_).up (by decide)
    · rw [mapP_ret (g := fun k => .str (strL (List.replicate (8 - k).toNat (97 + b.toNat)))) (Nat.le_of_ble_eq_true rfl) (fun x hx => by
        rw [abc_ix b0 b1, bnd_ret, chS_strL]
        simp only [List.mem_cons, List.not_mem_nil, or_false] at hx
        rcases hx with rfl | rfl | rfl <;> exact rep_one _ (by decide)), bnd_ret]
      refine Gen.ret ?_
      have hlow := letter_low b0 b1
      show Lb3 (.lst [.str (strL (List.replicate 8 (97 + b.toNat))), .str (strL (List.replicate 7 (97 + b.toNat))), .str (strL (List.replicate 6 (97 + b.toNat)))])
      have nl : ∀ i j : Nat, i ≠ j → List.replicate i (97 + b.toNat) ≠ List.replicate j (97 + b.toNat) := fun i j h e => h (by simpa using congrArg List.length e)
      refine lb3 (nl _ _ (by decide)) (nl _ _ (by decide)) (nl _ _ (by decide)) fun l hl => ?_
      simp only [List.mem_cons, List.not_mem_nil, or_false] at hl
      rcases hl with rfl | rfl | rfl <;> exact wordB_strL _ (by rw [List.length_replicate]; decide) (by rw [List.length_replicate]; decide) fun k hk => by rw [(List.mem_replicate.mp hk).2]; exact hlow
    · have e : (fun (k2 : Int) (j : List D) => (bnd (bnd (drw 8) fun r2 => bnd (rngI r2) fun isV3 => mapP (fun j1 => bnd (drw 26) fun r3 => ixD (.str (Str.ofString "abcdefghijklmnopqrstuvwxyz")) (.int r3)) isV3) fun tail =>
          bnd (bnd (mulI 7 k2) fun i2 => bnd (modI (b + i2) 26) fun i3 => bnd (ixD (.str (Str.ofString "abcdefghijklmnopqrstuvwxyz")) (.int i3)) fun y3 => bnd (joinD (.str (Str.ofString "")) (.lst tail)) fun j2 => addD y3 j2) fun app => roomL j (ret (.go (j ++ [app]))) : W (Step (List D) D))) =
          fun k2 j => bnd (bnd (bnd (drw 8) fun r2 => bnd (rngI r2) fun isV3 => mapP (fun j1 => bnd (drw 26) fun r3 => ixD (.str (Str.ofString "abcdefghijklmnopqrstuvwxyz")) (.int r3)) isV3) fun tail =>
            bnd (mulI 7 k2) fun i2 => bnd (modI (b + i2) 26) fun i3 => bnd (ixD (.str (Str.ofString "abcdefghijklmnopqrstuvwxyz")) (.int i3)) fun y3 => bnd (joinD (.str (Str.ofString "")) (.lst tail)) fun j2 => addD y3 j2) fun app => roomL j (ret (.go (j ++ [app]))) := funext fun _ => funext fun _ => (bnd_bnd _ _ _).symm
      show Gen (forT _ _ _ _) _ _
      rw [e]
      refine (gather_gen (c := 8) (d := 0) (Q := Wd b) [0, 1, 2] [] (fun x hx => ?_) (by decide) fun ys hys => ?_).up (by decide)
      · simp only [List.mem_cons, List.not_mem_nil, or_false] at hx
        rcases hx with rfl | rfl | rfl <;> exact word_turn (by decide) (by decide) b0 b1
      · obtain ⟨y0, r0, rfl, ⟨t0, rfl, l0, w0⟩, y1, r1, rfl, ⟨t1, rfl, l1, w1⟩, y2, r2, rfl, ⟨t2, rfl, l2, w2⟩, rfl⟩ := hys
        refine Gen.ret ?_
        have low : ∀ k : Int, lower (97 + ((b + 7 * k) % 26).toNat) = true := fun k => letter_low (Int.emod_nonneg _ (by decide)) (Int.emod_lt_of_pos _ (by decide))
        have wd : ∀ (k : Int) (t : List Nat), t.length ≤ 7 → (∀ c ∈ t, lower c = true) → wordB (.str (strL ((97 + ((b + 7 * k) % 26).toNat) :: t))) = true := fun k t h1 h2 => wordB_strL _ (by simp) (by simp only [List.length_cons]; omega) fun c hc => (List.mem_cons.mp hc).elim (fun e => e ▸ low k) (h2 c)
        refine lb3 (Wd.ne (by omega)) (Wd.ne (by omega)) (Wd.ne (by omega)) fun l hl => ?_
        simp only [List.mem_cons, List.not_mem_nil, or_false] at hl
        rcases hl with rfl | rfl | rfl
        · exact wd 0 t0 l0 w0
        · exact wd 1 t1 l1 w1
        · exact wd 2 t2 l2 w2
theorem value_gen : Gen d_l_value 2 (fun d => numB d = true) := by
  unfold d_l_value
  refine Gen.dr (c := 1) (by decide) (by decide) fun way h0 h1 => ?_
  refine Gen.dr (c := 0) (by decide) (by decide) fun q h2 h3 => ?_
  refine Gen.pickL h2 (by simp only [List.length_cons, List.length_nil]; omega) fun y hy => ?_
  refine Gen.pickL0 h0 (by simp only [List.length_cons, List.length_nil]; omega) fun z hz => ?_
  simp only [List.mem_cons, List.not_mem_nil, or_false] at hy hz
  have hn : ∀ i : Int, -1000000000000000000 ≤ i → i ≤ 1000000000000000000 → numB (.int i) = true := fun i h1 h2 => by simp only [numB, Bool.and_eq_true, decide_eq_true_eq]; exact ⟨by omega, by omega⟩
  rcases hz with rfl | rfl | rfl | rfl
  · exact hn _ (by omega) (by omega)
  · exact hn _ (by omega) (by omega)
  · exact hn _ (by omega) (by omega)
  · rcases hy with rfl | rfl | rfl <;> exact hn _ (by decide) (by decide)
theorem store_run {k : List D → W D} {R : D → Prop} {d : Nat} : ∀ (L : List Str) (j0 : List D), L.Nodup → j0.length + L.length < 1000000 → (∀ ss g, List.Sublist ss L → (∀ s ∈ ss, numB (g s) = true) → Gen (k (j0 ++ PF ss g)) d R) →
    Gen (forT (fun key j => bnd (bnd (drw 3) fun r => ret (decide (0 < r))) fun kk => if kk = true then
      bnd (bnd (d_l_value) fun y => ret [key, y]) fun app => roomL j (ret (.go (j ++ [(.tup app)]))) else ret (.go j)) k (L.map .str) j0) (3 * L.length + d) R
  | [], j0, _, _, hk => by
    have := hk [] (fun _ => .non) .slnil (fun _ h => nomatch h)
    rw [show PF [] (fun _ => D.non) = [] from rfl, List.append_nil] at this
    exact this.up (by omega)
  | s :: L, j0, hn, hl, hk => by
    rw [List.length_cons] at hl
    have hn2 := List.nodup_cons.mp hn
    show Gen (bnd (bnd (bnd (drw 3) _) _) _) _ _
    simp only [bnd_bnd]
    refine (Gen.dr (c := 2 + (3 * L.length + d)) (by decide) (by decide) fun r _ _ => ?_).up (by rw [List.length_cons]; omega)
    rw [bnd_ret]
    cases decide (0 < r) with
    | false =>
      rw [if_neg (by decide), bnd_ret]
      exact (store_run L j0 hn2.2 (by omega) fun ss g h1 h2 => hk ss g (h1.cons _) h2).up (by omega)
    | true =>
      rw [if_pos rfl]
      simp only [bnd_bnd]
      refine Gen.bind (c := 2) (d := 3 * L.length + d) value_gen fun y hy => ?_
      rw [bnd_ret, room_pos (by omega), bnd_ret]
      refine store_run L (j0 ++ [.tup [.str s, y]]) hn2.2 (by rw [List.length_append]; simp only [List.length_cons, List.length_nil]; omega) fun ss g h1 h2 => ?_
      have ns : s ∉ ss := fun z => hn2.1 (h1.subset z)
      have := hk (s :: ss) (fun t => if t = s then y else g t) (h1.cons₂ _) fun t ht => by
        show numB (if t = s then y else g t) = true
        by_cases e : t = s
        · rw [if_pos e]; exact hy
        · rw [if_neg e]; exact h2 t ((List.mem_cons.mp ht).resolve_left e)
      have e : PF (s :: ss) (fun t => if t = s then y else g t) = .tup [.str s, y] :: PF ss g := by
        show D.tup [.str s, if s = s then y else g s] :: PF ss _ = _
        rw [if_pos rfl]
        congr 1
        exact PF_congr fun t ht => by rw [if_neg fun e : t = s => ns (by rw [← e]; exact ht)]
      rw [e] at this
      rw [List.append_assoc]
      exact this
theorem store_gen {K : List Str} (hw : ∀ s ∈ K, wordB (.str s) = true) (hn : K.Nodup) (hl : K.length ≤ 8) : Gen (d_l_store (.lst (K.map .str))) 24 (St K) := by
  unfold d_l_store
  rw [sortW_ok (by omega), bnd_ret]
  refine (store_run (d := 0) (sortT K) [] (sortT_nodup hn) (by rw [sortT_len]; simp only [List.length_nil]; omega) fun ss g h1 h2 => ?_).up (by rw [sortT_len]; omega)
  rw [List.nil_append]
  exact Gen.ret (St.of_pf hw hn h1 h2)
end Q31

namespace Q31
open PySem PySem.Spec L2 PL
/-! ### the deck's states and commands -/
def Mk (K N : List Str) (d : D) : Prop := ∃ s ∈ N, ∃ t, St K t ∧ d = .tup [.str s, t]
def Stt (K N : List Str) (n : Nat) (d : D) : Prop := ∃ t xs, St K t ∧ (∀ x ∈ xs, Mk K N x) ∧ xs.length ≤ n ∧ d = .tup [t, .tup xs]
theorem Stt.up {K N : List Str} {n m : Nat} {d : D} (h : Stt K N n d) (hm : n ≤ m) : Stt K N m d := by
  obtain ⟨t, xs, h1, h2, h3, e⟩ := h
  exact ⟨t, xs, h1, h2, Nat.le_trans h3 hm, e⟩
/-- what a law draws its states from -/
structure Kn (K N : List Str) : Prop where
  kw : ∀ s ∈ K, wordB (.str s) = true
  nw : ∀ s ∈ N, wordB (.str s) = true
  kn : K.Nodup
  kl : K.length ≤ 8
  nl : N.length ≤ 8
  k0 : 0 < K.length
  n0 : 0 < N.length
theorem pickS_gen {K : List Str} (h0 : 0 < K.length) (h1 : K.length ≤ 8) : Gen (d_l_pick (.lst (K.map .str))) 1 (fun d => ∃ s ∈ K, d = .str s) :=
  pick_gen (by rw [List.length_map]; exact h0) (by rw [List.length_map]; omega) fun x hx => by
    obtain ⟨s, hs, rfl⟩ := List.mem_map.mp hx
    exact ⟨s, hs, rfl⟩
theorem size_gen {m : Int} {f : D → W D} {c : Nat} {Q : D → Prop} (h0 : 0 ≤ m) (h1 : m ≤ 16) (hf : ∀ i : Int, 0 ≤ i → i ≤ m → Gen (f (.int i)) c Q) : Gen (bnd (bnd (drw (m + 1)) fun r => bnd (drw 2) fun r1 => ixD (.lst [(.int m), (.int r)]) (.int r1)) f) (2 + c) Q := by
  rw [bnd_bnd]
  refine (Gen.dr (c := 1 + c) (by omega) (by omega) fun r q0 q1 => ?_).up (by omega)
  rw [bnd_bnd]
  refine Gen.dr (c := c) (by decide) (by decide) fun r1 z0 z1 => ?_
  refine Gen.pickL z0 (by simp only [List.length_cons, List.length_nil]; omega) fun y hy => ?_
  simp only [List.mem_cons, List.not_mem_nil, or_false] at hy
  rcases hy with rfl | rfl
  · exact hf m h0 (Int.le_refl _)
  · exact hf r q0 (by omega)
theorem state_gen {K N : List Str} (h : Kn K N) : Gen (d_l_state (.lst (N.map .str)) (.lst (K.map .str)) 8) 400 (Stt K N 8) := by
  unfold d_l_state
  refine (size_gen (c := 300) (by decide) (by decide) fun i i0 i1 => ?_).up (by decide)
  rw [bnd_bnd, show intI (.int i) = ret i from rfl, bnd_ret, bnd_bnd, rngI_ret (by omega), bnd_ret]
  refine (Gen.bind (c := 25 * 8) (d := 24) (Gen.map (c := 25) (Q := Mk K N) 8 (by rw [rngZ_len]; omega) fun k _ => ?_) fun xs ⟨h1, h2⟩ => ?_).up (by decide)
  · refine (Gen.bind (c := 1) (d := 24) (pickS_gen h.n0 h.nl) fun y ⟨s, hs, e⟩ => ?_).up (by decide)
    subst e
    refine (Gen.bind (c := 24) (d := 0) (store_gen h.kw h.kn h.kl) fun t ht => ?_).up (by decide)
    exact Gen.ret ⟨s, hs, t, ht, rfl⟩
  · refine (Gen.bind (c := 24) (d := 0) (store_gen h.kw h.kn h.kl) fun t ht => ?_).up (by decide)
    rw [rngZ_len] at h1
    exact Gen.ret ⟨t, xs, ht, h2, by omega, rfl⟩
/-- commands -/
inductive Cm (K N : List Str) : D → Prop
  | set {s : Str} {x : D} (h : s ∈ K) (hx : numB x = true) : Cm K N (.tup [.str (Str.ofString "set"), .str s, x])
  | del {s : Str} (h : s ∈ K) : Cm K N (.tup [.str (Str.ofString "del"), .str s])
  | mark {s : Str} (h : s ∈ N) : Cm K N (.tup [.str (Str.ofString "mark"), .str s])
  | back {s : Str} (h : s ∈ N) : Cm K N (.tup [.str (Str.ofString "back"), .str s])
  | keep {s : Str} (h : s ∈ N) : Cm K N (.tup [.str (Str.ofString "keep"), .str s])
theorem command_gen {K N : List Str} (h : Kn K N) : Gen (d_l_command (.lst (N.map .str)) (.lst (K.map .str))) 4 (Cm K N) := by
  unfold d_l_command
  refine (Gen.dr (c := 3) (by decide) (by decide) fun way q0 q1 => ?_).up (by decide)
  refine (Gen.cond (c := 3) (d := 3) (fun _ => ?_) fun hw => ?_).up (by decide)
  · refine (Gen.bind (c := 1) (d := 2) (pickS_gen h.k0 h.kl) fun y ⟨t, ht, e⟩ => ?_).up (by decide)
    subst e
    refine (Gen.bind (c := 2) (d := 0) value_gen fun y hy => ?_).up (by decide)
    exact Gen.ret (.set ht hy)
  · refine (Gen.cond (c := 1) (d := 1) (fun _ => ?_) fun hw2 => ?_).up (by decide)
    · refine (Gen.bind (c := 1) (d := 0) (pickS_gen h.k0 h.kl) fun y ⟨t, ht, e⟩ => ?_).up (by decide)
      subst e
      exact Gen.ret (.del ht)
    · have hw := of_decide_eq_false hw
      have hw2 := of_decide_eq_false hw2
      refine Gen.pickL (by omega) (by simp; omega) fun y hy => ?_
      refine (Gen.bind (c := 1) (d := 0) (pickS_gen h.n0 h.nl) fun y ⟨t, ht, e⟩ => ?_).up (by decide)
      subst e
      simp only [List.mem_cons, List.not_mem_nil, or_false] at hy
      rcases hy with rfl | rfl | rfl | rfl | rfl
      · exact Gen.ret (.mark ht)
      · exact Gen.ret (.mark ht)
      · exact Gen.ret (.back ht)
      · exact Gen.ret (.keep ht)
      · exact Gen.ret (.keep ht)
theorem commands_gen {K N : List Str} (h : Kn K N) : Gen (d_l_commands (.lst (N.map .str)) (.lst (K.map .str)) 6) 30 (fun d => ∃ xs, d = .lst xs ∧ xs.length ≤ 6 ∧ ∀ x ∈ xs, Cm K N x) := by
  unfold d_l_commands
  refine (size_gen (c := 24) (by decide) (by decide) fun i i0 i1 => ?_).up (by decide)
  rw [show intI (.int i) = ret i from rfl, bnd_ret, rngI_ret (by omega), bnd_ret]
  refine (Gen.bind (c := 4 * 6) (d := 0) (Gen.map (c := 4) (Q := Cm K N) 6 (by rw [rngZ_len]; omega) fun k _ => command_gen h) fun xs ⟨h1, h2⟩ => ?_).up (by decide)
  rw [rngZ_len] at h1
  exact Gen.ret ⟨xs, rfl, by omega, h2⟩
/-- the places of a name -/
def places (xs : List D) (s : Str) : List Int := (rngZ 0 xs.length).filter fun i => match xs[i.toNat]? with | some (.tup (.str t :: _)) => t == s | _ => false
def Nmd (x : D) : Prop := ∃ t r, x = .tup (.str t :: r)
theorem Mk.nmd {K N : List Str} {x : D} (h : Mk K N x) : Nmd x := by
  obtain ⟨s, _, t, _, rfl⟩ := h
  exact ⟨s, [t], rfl⟩
theorem places_eq {xs : List D} {s : Str} (hx : ∀ x ∈ xs, Nmd x) (hl : xs.length ≤ 1000) {t : Int → W Bool} (ht : ∀ i : Int, t i = bnd (ixD (.tup xs) (.int i)) fun y7 => bnd (ixD y7 (.int 0)) fun y8 => bnd (eqB y8 (.str s)) fun k4 => ret k4) :
    selP t (fun i => ret (.int i)) (rngZ 0 xs.length) = ret ((places xs s).map .int) := by
  refine selP_ret (by rw [rngZ_len]; omega) (fun i hi => ?_) fun i _ _ => rfl
  have hm := rngZ_mem hi
  obtain ⟨n, rfl⟩ := Int.eq_ofNat_of_zero_le hm.1
  have hn : n < xs.length := by omega
  obtain ⟨u, r, e⟩ := hx xs[n] (List.getElem_mem hn)
  rw [ht, ix_atT hn, bnd_ret, e, ix0, bnd_ret, eqB_str, bnd_ret]
  show _ = ret (match xs[n]? with | some (.tup (.str t :: _)) => t == s | _ => false)
  rw [List.getElem?_eq_getElem hn, e]
theorem ix_last {xs : List Int} (h : xs ≠ []) : ixD (.lst (xs.map .int)) (.int (-1)) = ret (.int (xs.getLast h)) := by
  have hl : 0 < xs.length := List.length_pos_iff.mpr h
  refine ix_l ?_
  have e : ixN (xs.map D.int).length (-1) = some (xs.length - 1) := by
    unfold ixN
    rw [List.length_map, if_neg (by decide), if_pos (by omega)]
    congr 1
    omega
  unfold atI
  rw [e]
  show (xs.map D.int)[xs.length - 1]? = _
  rw [List.getElem?_map, List.getLast_eq_getElem, List.getElem?_eq_getElem (by omega)]
  rfl
end Q31

namespace Q31
open PySem PySem.Spec L2 PL
/-! ### words, values, maps of the program -/
theorem is_word_eq (x : D) : d_is_word x = ret (.bl (wordB x)) := by
  unfold d_is_word
  cases x with
  | str s =>
    simp only [isT, lenI, codesD, bnd_ret, thenB_bl, blB_bl, orB_ret, Bool.not_true, Bool.false_or]
    by_cases h1 : 1 ≤ (s.length : Int)
    · by_cases h2 : (s.length : Int) ≤ 8
      · simp only [h1, h2, decide_true, Bool.and_self, Bool.not_true, Bool.false_eq_true, if_false]
        rw [mapP_ret (g := fun k => .bl (lower k)) (short8 h2) fun k _ => in_abc k, bnd_ret, all_bls]
        simp [wordB, h1, h2]
      · simp [h1, h2, wordB]
    · simp [h1, wordB]
  | _ => simp [isT, orB, bnd_ret, wordB]
theorem is_integer_eq (x : D) : d_is_integer x = ret (.bl (match x with | .int _ => true | _ => false)) := by
  unfold d_is_integer
  cases x <;> rfl
theorem is_value_eq (x : D) : d_is_value x = ret (.bl (numB x)) := by
  unfold d_is_value d_is_between
  rw [is_integer_eq]
  cases x with
  | int i =>
    simp only [cl_ret, andD_t, leD_int, thenB_bl]
    rfl
  | _ => simp only [cl_ret, andD_f, numB]
section
variable {v : D → Bool} {a b : List (Key × D)}
theorem over_same (ha : DI v a) (hb : DI v b) {j : List (Key × D)} (hj : DI v j) (e : ∀ s, valD j (.inr s) = (valD b (.inr s)).or (valD a (.inr s))) : pairsOf j = pairsOf (mergeD a b) :=
  pairsOf_congr hj (DI.merge ha hb.1).1 fun s => by rw [e, valD_merge _ _ _ hb.2]
theorem overlaid_eq (ha : DI v a) (hb : DI v b) (hl : a.length + b.length < 64) : d_overlaid (.tup (pairsOf a)) (.tup (pairsOf b)) = ret (.tup (pairsOf (mergeD a b))) := by
  obtain ⟨h1, h2, h3⟩ := sort_over ha hb
  unfold d_overlaid
  rw [dictW_of ha, bnd_ret, dictW_of hb, bnd_ret, overW_ok (by rw [sortK_len, sortK_len]; omega), bnd_ret, merge_nil (sortK_DI ha)]
  refine cl_eq ?_
  unfold d_pairs_of
  rw [pairs_ret h1 (by omega), over_same ha hb h1 h3]
theorem applied_eq (ha : DI v a) (hb : DI v b) (hl : a.length + b.length < 64) : d_applied (.tup (pairsOf a)) (.tup (pairsOf b)) = ret (.tup (pairsOf (dropN (mergeD a b)))) := by
  obtain ⟨h1, h2⟩ := merge_facts ha hb
  unfold d_applied
  have hk : (keysS (sortK (mergeD a b))).length ≤ 1000000 := by
    unfold keysS
    rw [List.length_map, sortK_len]
    omega
  rw [overlaid_eq ha hb hl, cl_ret, bnd_ret, dictW_of h1, bnd_ret, keysD_ok (sortK_DI h1) (by rw [sortK_len]; omega), bnd_ret,
    sel_ret (p := fun s => !isNone (valS (sortK (mergeD a b)) s)) (g := fun s => .tup [.str s, valS (sortK (mergeD a b)) s]) hk (fun s hs => by rw [dgetD_ok (sortK_DI h1) hs, bnd_ret]) (fun s hs _ => by rw [dgetD_ok (sortK_DI h1) hs, bnd_ret]), bnd_ret, pairsOf_dropN h1, sortK_keys (mergeD a b)]
  have e : ∀ s, valS (sortK (mergeD a b)) s = valS (mergeD a b) s := fun s => by unfold valS; rw [sortK_val h1]
  simp only [e]
  rfl
end
/-! ### what the program does behind a command -/
theorem find_run {α γ : Type} {bd : α → Unit → W (Step Unit γ)} {k : Unit → W γ} {p : α → Bool} {g : α → γ} : ∀ {L : List α}, (∀ x ∈ L, bd x () = ret (if p x = true then .out (g x) else .go ())) → forT bd k L () = match L.find? p with | some x => ret (g x) | none => k ()
  | [], _ => rfl
  | x :: L, h => by
    show bnd (bd x ()) _ = _
    rw [h x List.mem_cons_self, bnd_ret, List.find?_cons]
    cases p x with
    | true => rfl
    | false => exact find_run fun y hy => h y (List.mem_cons_of_mem _ hy)
theorem rngDn_rev (n : Nat) : rngDn ((n : Int) - 1) n = (rngZ 0 n).reverse := by
  refine List.ext_getElem? fun i => ?_
  unfold rngDn rngZ
  by_cases h : i < n
  · rw [List.getElem?_map, List.getElem?_range h, List.getElem?_reverse (by simpa using h), List.getElem?_map, List.length_map, List.length_range, List.getElem?_range (by omega)]
    show some ((n : Int) - 1 + (i : Int) * (-1)) = some ((0 : Int) + ((n - 1 - i : Nat) : Int))
    congr 1
    omega
  · rw [List.getElem?_eq_none (by simp; omega), List.getElem?_eq_none (by simp; omega)]
def plB (xs : List D) (s : Str) (i : Int) : Bool := match xs[i.toNat]? with | some (.tup (.str t :: _)) => t == s | _ => false
theorem places_def (xs : List D) (s : Str) : places xs s = (rngZ 0 xs.length).filter (plB xs s) := rfl
def plD (xs : List D) (s : Str) : D := match (places xs s).getLast? with | some i => .int i | none => .non
theorem nearest_eq {xs : List D} {s : Str} (hx : ∀ x ∈ xs, Nmd x) (hl : xs.length ≤ 1000) : d_nearest_place (.tup xs) (.str s) = ret (plD xs s) := by
  unfold d_nearest_place
  rw [lenI_tup, bnd_ret]
  unfold rngM
  rw [grd_pos (by unfold inR; omega), bnd_ret, show ((xs.length : Int) - 1 - -1).toNat = xs.length by omega, rngDn_rev]
  rw [find_run (p := plB xs s) (g := fun i => .int i) fun i hi => ?_]
  · unfold plD
    rw [places_def, ← List.head?_reverse, ← List.filter_reverse, List.head?_filter]
    cases ((rngZ 0 xs.length).reverse.find? (plB xs s)) <;> rfl
  · have hm := rngZ_mem (List.mem_reverse.mp hi)
    obtain ⟨n, rfl⟩ := Int.eq_ofNat_of_zero_le hm.1
    have hn : n < xs.length := by omega
    obtain ⟨u, r, e⟩ := hx xs[n] (List.getElem_mem hn)
    rw [ix_atT hn, bnd_ret, e, ix0, bnd_ret, eqB_str, bnd_ret]
    have e2 : plB xs s (n : Int) = (u == s) := by
      show (match xs[n]? with | some (.tup (.str t :: _)) => t == s | _ => false) = _
      rw [List.getElem?_eq_getElem hn, e]
    show _ = PL.ret (if plB xs s (n : Int) = true then _ else _)
    rw [e2]
    cases (u == s) <;> rfl
theorem plD_none {xs : List D} {s : Str} (h : places xs s = []) : plD xs s = .non := by unfold plD; rw [h]; rfl
theorem is_write_eq (c : Str) (xs : List D) : d_is_write (.tup (.str c :: xs)) = ret (.bl (wSet == c || wDel == c)) := by
  unfold d_is_write
  rw [ix0, bnd_ret, in_two]
theorem one_map {s : Str} {x : D} (hs : wordB (.str s) = true) (hx : vg true x = true) : DI (vg true) [(.inr s, x)] ∧ D.tup [.tup [.str s, x]] = .tup (pairsOf [(.inr s, x)]) := by
  have e : ([(Sum.inr s, x)] : List (Key × D)) = KF [s] fun _ => x := rfl
  rw [e, pairsOf_KF (by simp)]
  exact ⟨DI.kf (by simp) fun t ht => by rw [List.mem_singleton.mp ht]; exact ⟨hs, hx⟩, rfl⟩
theorem in_four (a b c d e : Str) : inFlat false (.str a) (.tup [.str b, .str c, .str d, .str e]) = ret (.bl (b == a || (c == a || (d == a || e == a)))) := by
  show grd _ _ = _
  rw [grd_pos ⟨rfl, rfl⟩]
  simp [scEq]
theorem is_command_ok {K N : List Str} (h : Kn K N) {row : D} (hr : Cm K N row) : d_is_command row = ret (.bl true) := by
  unfold d_is_command
  cases hr with
  | set hs hv =>
    rename_i s x
    simp only [isT, lenI_tup, ix0, ix1, ix2, bnd_ret, is_word_eq, h.kw s hs, cl_ret, tru_bl, orB_ret, eqB_str, beq_self_eq_true, if_true, is_value_eq, hv, List.length_cons, List.length_nil]
    rfl
  | del hs =>
    rename_i s
    simp only [isT, lenI_tup, ix0, ix1, bnd_ret, is_word_eq, h.kw s hs, cl_ret, tru_bl, orB_ret, eqB_str, w_ds, in_four, beq_self_eq_true, List.length_cons, List.length_nil]
    rfl
  | mark hs =>
    rename_i s
    simp only [isT, lenI_tup, ix0, ix1, bnd_ret, is_word_eq, h.nw s hs, cl_ret, tru_bl, orB_ret, eqB_str, w_ms, in_four, beq_self_eq_true, List.length_cons, List.length_nil, Bool.or_true, Bool.true_or]
    rfl
  | back hs =>
    rename_i s
    simp only [isT, lenI_tup, ix0, ix1, bnd_ret, is_word_eq, h.nw s hs, cl_ret, tru_bl, orB_ret, eqB_str, w_bs, in_four, beq_self_eq_true, List.length_cons, List.length_nil, Bool.or_true, Bool.true_or]
    rfl
  | keep hs =>
    rename_i s
    simp only [isT, lenI_tup, ix0, ix1, bnd_ret, is_word_eq, h.nw s hs, cl_ret, tru_bl, orB_ret, eqB_str, w_ks, in_four, beq_self_eq_true, List.length_cons, List.length_nil, Bool.or_true, Bool.true_or]
    rfl
theorem valid_run {k : Unit → W D} : ∀ (rs : List D) (i : Nat), (∀ r ∈ rs, d_is_command r = ret (.bl true)) → forT (fun (p : Int × D) (j : Unit) =>
    bnd (bnd (cl (d_is_command p.2)) fun y => bnd (tru y) fun k1 => ret (!k1)) fun kk => if kk = true then
    ret (.out (.tup [(.int p.1)]))
    else
    ret (.go ())) k (enumZ i rs) () = k ()
  | [], _, _ => rfl
  | r :: rs, i, h => by
    show bnd (bnd (bnd (cl (d_is_command r)) _) _) _ = _
    rw [h r List.mem_cons_self, cl_ret, bnd_ret, tru_bl, bnd_ret, bnd_ret]
    exact valid_run rs (i + 1) fun x hx => h x (List.mem_cons_of_mem _ hx)
theorem need_ok {rs : List D} {d : D} (hd : d = .lst rs ∨ d = .tup rs) (hl : rs.length ≤ 60) (h : ∀ r ∈ rs, d_is_command r = ret (.bl true)) : d_need_script d = ret .non := by
  have e1 : isA [.tup, .lst] d = true := by rcases hd with rfl | rfl <;> rfl
  have e2 : lenI d = ret (rs.length : Int) := by rcases hd with rfl | rfl <;> rfl
  have e3 : enumI d = ret (enumZ 0 rs) := by rcases hd with rfl | rfl <;> rfl
  have e : d_first_invalid d = ret (.tup []) := by
    unfold d_first_invalid
    rw [e1, e2, bnd_ret, Bool.not_true, orB_ret, bnd_ret, show (false || decide (60 < (rs.length : Int))) = false by simp; omega, if_neg (by decide), e3, bnd_ret]
    exact valid_run rs 0 h
  unfold d_need_script
  rw [e, cl_ret, bnd_ret, neB_same okD_nil, bnd_ret]
  rfl
end Q31

namespace Q31
open PySem PySem.Spec L2 PL
/-! ### plans and scripts over maps that are functions -/
abbrev Fm := Str → Option D
def ovr (a b : Fm) : Fm := fun s => (b s).or (a s)
def appF (a b : Fm) : Fm := fun s => ((b s).or (a s)).filter fun x => !isNone x
def oneF (k : Str) (x : D) : Fm := fun s => if s = k then some x else none
def nilF : Fm := fun _ => none
def Nn (a : Fm) : Prop := ∀ s, (a s).filter (fun x => !isNone x) = a s
theorem filt_filt {p : D → Bool} (o : Option D) : (o.filter p).filter p = o.filter p := by
  cases o with
  | none => rfl
  | some x => cases h : p x <;> simp [Option.filter, h]
theorem Nn.app (a b : Fm) : Nn (appF a b) := fun s => filt_filt _
inductive Cd where
  | wr (k : Str) (x : D) | mark (n : Str) | back (n : Str) | keep (n : Str)
/-- marks, from the top -/
abbrev Rp := List (Str × Fm)
def cut (n : Str) : Rp → Option (Fm × Rp)
  | [] => none
  | m :: r => if m.1 = n then some (m.2, r) else cut n r
def aft : Cd → Fm × Rp → Option (Fm × Rp)
  | .wr k x, s => some (appF s.1 (oneF k x), s.2)
  | .mark n, s => some (s.1, (n, s.1) :: s.2)
  | .back n, s => (cut n s.2).map fun z => (z.1, (n, z.1) :: z.2)
  | .keep n, s => (cut n s.2).map fun z => (s.1, z.2)
def walk : List Cd → Fm × Rp → Option (Fm × Rp)
  | [], s => some s
  | c :: cs, s => (aft c s).bind (walk cs)
/-! ### maps, marks, states, parts as data -/
def RF (v : D → Bool) (K : List Str) (t : D) (f : Fm) : Prop := ∃ j, DI v j ∧ (∀ s ∈ keysS j, s ∈ K) ∧ t = .tup (pairsOf j) ∧ ∀ s, valD j (.inr s) = f s
theorem RF.uniq {v w : D → Bool} {K K' : List Str} {t t' : D} {f : Fm} (h : RF v K t f) (h' : RF w K' t' f) : t = t' := by
  obtain ⟨j, d, _, rfl, e⟩ := h
  obtain ⟨j', d', _, rfl, e'⟩ := h'
  rw [pairsOf_congr d d' fun s => (e s).trans (e' s).symm]
theorem DI.lenK {v : D → Bool} {K : List Str} {j : List (Key × D)} (h : DI v j) (hk : ∀ s ∈ keysS j, s ∈ K) : j.length ≤ K.length := by
  have := nodup_len (keysS_nodup h) hk
  unfold keysS at this
  rwa [List.length_map] at this
theorem RF.nn {K : List Str} {t : D} {f : Fm} (h : RF numB K t f) : Nn f := fun s => by
  obtain ⟨j, d, _, _, e⟩ := h
  rw [← e]
  cases q : valD j (.inr s) with
  | none => rfl
  | some y =>
    have hm : s ∈ keysS j := (mem_keysS d s).mpr (by rw [q]; rfl)
    obtain ⟨z, ez, hz⟩ := valD_some d hm
    rw [q] at ez
    cases ez
    have : isNone y = false := by cases y <;> first | rfl | cases hz
    simp [Option.filter, this]
theorem RF.keys {v : D → Bool} {j : List (Key × D)} {K : List Str} {f : Fm} (d : DI v j) (e : ∀ s, valD j (.inr s) = f s) (h : ∀ s, (f s).isSome = true → s ∈ K) : ∀ s ∈ keysS j, s ∈ K := fun s hs => h s (by rw [← e]; exact (mem_keysS d s).mp hs)
theorem RF.up {K : List Str} {t : D} {f : Fm} (h : RF numB K t f) : RF (vg true) K t f := by
  obtain ⟨j, d, k, e1, e2⟩ := h
  exact ⟨j, d.mono num_vg, k, e1, e2⟩
theorem RF.over {K : List Str} (hK : K.length ≤ 8) {a b : D} {f g : Fm} (ha : RF (vg true) K a f) (hb : RF (vg true) K b g) : ∃ c : D, d_overlaid a b = ret c ∧ RF (vg true) K c (ovr f g) := by
  obtain ⟨j, d, k, rfl, e⟩ := ha
  obtain ⟨j', d', k', rfl, e'⟩ := hb
  have l1 := DI.lenK d k
  have l2 := DI.lenK d' k'
  have ev : ∀ s, valD (mergeD j j') (.inr s) = ovr f g s := fun s => by rw [valD_merge _ _ _ d'.2, e, e']; rfl
  refine ⟨_, overlaid_eq d d' (by omega), mergeD j j', (merge_facts d d').1, RF.keys (merge_facts d d').1 ev fun s hs => ?_, rfl, ev⟩
  unfold ovr at hs
  cases q : g s with
  | some y => rw [← e'] at q; exact k' s ((mem_keysS d' s).mpr (by rw [q]; rfl))
  | none => rw [q] at hs; rw [Option.none_or, ← e] at hs; exact k s ((mem_keysS d s).mpr hs)
theorem RF.app {K : List Str} (hK : K.length ≤ 8) {a b : D} {f g : Fm} (ha : RF (vg true) K a f) (hb : RF (vg true) K b g) : ∃ c : D, d_applied a b = ret c ∧ RF numB K c (appF f g) := by
  obtain ⟨j, d, k, rfl, e⟩ := ha
  obtain ⟨j', d', k', rfl, e'⟩ := hb
  have l1 := DI.lenK d k
  have l2 := DI.lenK d' k'
  have m1 := (merge_facts d d').1
  have ev : ∀ s, valD (dropN (mergeD j j')) (.inr s) = appF f g s := fun s => by rw [dropN_val m1.2, valD_merge _ _ _ d'.2, e, e']; rfl
  have dn : DI numB (dropN (mergeD j j')) := dropN_DI m1 fun x h1 h2 => by
    unfold vg at h1
    rw [h2] at h1
    simpa using h1
  refine ⟨_, applied_eq d d' (by omega), _, dn, RF.keys dn ev fun s hs => ?_, rfl, ev⟩
  unfold appF at hs
  have hs : ((g s).or (f s)).isSome = true := by
    cases q : (g s).or (f s) with
    | none => rw [q] at hs; exact hs
    | some _ => rfl
  cases q : g s with
  | some y => rw [← e'] at q; exact k' s ((mem_keysS d' s).mpr (by rw [q]; rfl))
  | none => rw [q] at hs; rw [Option.none_or, ← e] at hs; exact k s ((mem_keysS d s).mpr hs)
theorem RF.one {K : List Str} {k : Str} {x : D} (hk : k ∈ K) (hw : wordB (.str k) = true) (hx : vg true x = true) : RF (vg true) K (.tup [.tup [.str k, x]]) (oneF k x) := by
  obtain ⟨h1, e1⟩ := one_map hw hx
  refine ⟨_, h1, fun s hs => ?_, e1, fun s => ?_⟩
  · have : s ∈ [k] := hs
    rw [List.mem_singleton.mp this]; exact hk
  · rw [valD_cons]
    unfold oneF
    by_cases h : s = k
    · rw [if_pos h, if_pos (by rw [h])]
    · rw [if_neg h, if_neg fun z => h (Sum.inr.inj z).symm]; rfl
theorem RF.nil {v : D → Bool} {K : List Str} : RF v K (.tup []) nilF := ⟨[], DI.nil, fun s hs => (nomatch hs), by simp [pairsOf, keysS, sortT], fun s => rfl⟩
/-! marks, from the top -/
def RM (v : D → Bool) (K N : List Str) (x : D) (m : Str × Fm) : Prop := m.1 ∈ N ∧ ∃ t, RF v K t m.2 ∧ x = .tup [.str m.1, t]
def RL (v : D → Bool) (K N : List Str) : List D → Rp → Prop
  | [], r => r = []
  | x :: xs, r => ∃ m r', r = m :: r' ∧ RM v K N x m ∧ RL v K N xs r'
section
variable {v : D → Bool} {K N : List Str}
theorem RL.len : ∀ {xs : List D} {r : Rp}, RL v K N xs r → xs.length = r.length
  | [], r, h => by
    have h : r = [] := h
    rw [h]
    rfl
  | x :: xs, _, h => by
    obtain ⟨m, r', rfl, _, h⟩ := h
    show xs.length + 1 = r'.length + 1
    rw [RL.len h]
theorem RL.app : ∀ {xs ys : List D} {r q : Rp}, RL v K N xs r → RL v K N ys q → RL v K N (xs ++ ys) (r ++ q)
  | [], ys, r, q, h, h2 => by
    have h : r = [] := h
    rw [h]; exact h2
  | x :: xs, ys, _, q, h, h2 => by
    obtain ⟨m, r', rfl, hm, h⟩ := h
    exact ⟨m, r' ++ q, rfl, hm, RL.app h h2⟩
theorem RL.all : ∀ {xs : List D} {r : Rp}, RL v K N xs r → ∀ m ∈ r, ∃ x ∈ xs, RM v K N x m
  | [], r, h, m, hm => by
    have h : r = [] := h
    rw [h] at hm; cases hm
  | x :: xs, _, h, m, hm => by
    obtain ⟨m', r', rfl, h1, h⟩ := h
    rcases List.mem_cons.mp hm with rfl | hm
    · exact ⟨x, List.mem_cons_self, h1⟩
    · obtain ⟨y, hy, h2⟩ := RL.all h m hm
      exact ⟨y, List.mem_cons_of_mem _ hy, h2⟩
theorem RL.allX : ∀ {xs : List D} {r : Rp}, RL v K N xs r → ∀ x ∈ xs, ∃ m ∈ r, RM v K N x m
  | [], _, _, x, hx => nomatch hx
  | x :: xs, _, h, y, hy => by
    obtain ⟨m', r', rfl, h1, h⟩ := h
    rcases List.mem_cons.mp hy with rfl | hy
    · exact ⟨m', List.mem_cons_self, h1⟩
    · obtain ⟨m, hm, h2⟩ := RL.allX h y hy
      exact ⟨m, List.mem_cons_of_mem _ hm, h2⟩
theorem RL.nmd {xs : List D} {r : Rp} (h : RL v K N xs r) : ∀ x ∈ xs.reverse, Nmd x := fun x hx => by
  obtain ⟨m, _, _, t, _, e⟩ := h.allX x (List.mem_reverse.mp hx)
  exact ⟨m.1, [t], e⟩
def nmB (n : Str) (x : D) : Bool := match some x with | some (.tup (.str t :: _)) => t == n | _ => false
theorem RM.nm {x : D} {m : Str × Fm} (h : RM v K N x m) (n : Str) : nmB n x = (m.1 == n) := by
  obtain ⟨_, t, _, rfl⟩ := h
  rfl
theorem cutL (n : Str) : ∀ {xs : List D} {r : Rp}, RL v K N xs r → match cut n r with
    | none => ∀ x ∈ xs, nmB n x = false
    | some z => ∃ pre y ys, xs = pre ++ y :: ys ∧ RM v K N y (n, z.1) ∧ RL v K N ys z.2 ∧ ∀ x ∈ pre, nmB n x = false
  | [], r, h => by
    have h : r = [] := h
    rw [h]; exact fun x hx => nomatch hx
  | x :: xs, _, h => by
    obtain ⟨m, r', rfl, h1, h⟩ := h
    show match (if m.1 = n then some (m.2, r') else cut n r') with | none => _ | some z => _
    by_cases e : m.1 = n
    · rw [if_pos e]
      subst e
      exact ⟨[], x, xs, rfl, h1, h, fun x hx => nomatch hx⟩
    · rw [if_neg e]
      have q := cutL n h
      have hx : nmB n x = false := by rw [h1.nm]; exact beq_false_of_ne e
      cases ec : cut n r' with
      | none =>
        rw [ec] at q
        intro y hy
        rcases List.mem_cons.mp hy with rfl | hy
        · exact hx
        · exact q y hy
      | some z =>
        rw [ec] at q
        obtain ⟨pre, y, ys, rfl, q1, q2, q3⟩ := q
        refine ⟨x :: pre, y, ys, rfl, q1, q2, fun w hw => ?_⟩
        rcases List.mem_cons.mp hw with rfl | hw
        · exact hx
        · exact q3 w hw
end
theorem rngZ_snoc (n : Nat) : rngZ 0 (n + 1) = rngZ 0 n ++ [(n : Int)] := by
  unfold rngZ
  rw [List.range_succ, List.map_append]
  show _ ++ [(0 : Int) + (n : Int)] = _
  rw [Int.zero_add]
theorem plB_at {xs : List D} {s : Str} {i : Nat} {x : D} (h : xs[i]? = some x) : plB xs s (i : Int) = nmB s x := by
  unfold plB nmB
  rw [Int.toNat_natCast, h]
  all_goals rfl
theorem places_snoc (xs : List D) (x : D) (n : Str) : places (xs ++ [x]) n = places xs n ++ if nmB n x = true then [(xs.length : Int)] else [] := by
  rw [places_def, places_def, List.length_append, List.length_singleton, rngZ_snoc, List.filter_append]
  congr 1
  · refine List.filter_congr fun i hi => ?_
    have hm := rngZ_mem hi
    obtain ⟨k, rfl⟩ := Int.eq_ofNat_of_zero_le hm.1
    have hk : k < xs.length := by omega
    rw [plB_at (x := xs[k]) (by rw [List.getElem?_append_left hk, List.getElem?_eq_getElem hk]), plB_at (List.getElem?_eq_getElem hk)]
  · have e : plB (xs ++ [x]) n (xs.length : Int) = nmB n x := plB_at (by simp)
    rw [List.filter_cons, e]
    cases nmB n x <;> rfl
theorem places_none {xs : List D} {n : Str} (h : ∀ x ∈ xs, nmB n x = false) : places xs n = [] := by
  have key : ∀ ys : List D, (∀ x ∈ ys, nmB n x = false) → places ys.reverse n = [] := fun ys => by
    induction ys with
    | nil => intro _; rfl
    | cons y ys ih =>
      intro hy
      rw [List.reverse_cons, places_snoc, ih fun x hx => hy x (List.mem_cons_of_mem _ hx), hy y List.mem_cons_self]
      rfl
  have := key xs.reverse fun x hx => h x (List.mem_reverse.mp hx)
  rwa [List.reverse_reverse] at this
theorem places_last {n : Str} {y : D} {ys : List D} (hy : nmB n y = true) : ∀ pre : List D, (∀ x ∈ pre, nmB n x = false) → (places (pre ++ y :: ys).reverse n).getLast? = some (ys.length : Int)
  | [], _ => by
    rw [List.nil_append, List.reverse_cons, places_snoc, hy, if_pos rfl, List.getLast?_append, List.length_reverse]
    rfl
  | x :: pre, h => by
    rw [List.cons_append, List.reverse_cons, places_snoc, h x List.mem_cons_self, if_neg Bool.false_ne_true, List.append_nil]
    exact places_last hy pre fun w hw => h w (List.mem_cons_of_mem _ hw)
/-- the nearest mark -/
theorem near_ok {v : D → Bool} {K N : List Str} (n : Str) {xs : List D} {r : Rp} (h : RL v K N xs r) : match cut n r with
    | none => places xs.reverse n = []
    | some z => ∃ y ys, RM v K N y (n, z.1) ∧ RL v K N ys z.2 ∧ (places xs.reverse n).getLast? = some (ys.length : Int) ∧ xs.reverse.take ys.length = ys.reverse ∧ xs.reverse.take (ys.length + 1) = (y :: ys).reverse ∧ xs.reverse[ys.length]? = some y := by
  have q := cutL n h
  cases e : cut n r with
  | none =>
    rw [e] at q
    exact places_none fun x hx => q x (List.mem_reverse.mp hx)
  | some z =>
    rw [e] at q
    obtain ⟨pre, y, ys, rfl, q1, q2, q3⟩ := q
    have er : (pre ++ y :: ys).reverse = ys.reverse ++ (y :: pre.reverse) := by simp
    refine ⟨y, ys, q1, q2, places_last (by rw [q1.nm]; exact beq_self_eq_true _) pre q3, ?_, ?_, ?_⟩
    · rw [er, List.take_append_of_le_length (by simp)]
      exact List.take_of_length_le (by simp)
    · rw [er, List.reverse_cons, show ys.reverse ++ y :: pre.reverse = (ys.reverse ++ [y]) ++ pre.reverse by simp, List.take_append_of_le_length (by simp)]
      exact List.take_of_length_le (by simp)
    · rw [er, List.getElem?_append_right (by simp)]
      simp
theorem last_of {l : List Int} {i : Int} (h : l.getLast? = some i) : ∃ hne : l ≠ [], l.getLast hne = i := by
  cases l with
  | nil => cases h
  | cons a l => exact ⟨List.cons_ne_nil _ _, by rw [List.getLast?_eq_some_getLast (List.cons_ne_nil _ _)] at h; exact Option.some.inj h⟩
theorem plD_last {xs : List D} {n : Str} {i : Int} (h : (places xs n).getLast? = some i) : plD xs n = .int i := by unfold plD; rw [h]
/-! ### states and commands -/
def RS (K N : List Str) (d : D) (s : Fm × Rp) : Prop := ∃ t xs, RF numB K t s.1 ∧ RL numB K N xs s.2 ∧ d = .tup [t, .tup xs.reverse]
def RO (K N : List Str) (d : D) : Option (Fm × Rp) → Prop
  | none => d = .non
  | some s => RS K N d s
def CdOk (K N : List Str) : Cd → Prop
  | .wr k x => k ∈ K ∧ (x = .non ∨ numB x = true)
  | .mark n => n ∈ N
  | .back n => n ∈ N
  | .keep n => n ∈ N
def cmdD : Cd → D
  | .wr k .non => .tup [.str wDel, .str k]
  | .wr k x => .tup [.str wSet, .str k, x]
  | .mark n => .tup [.str wMark, .str n]
  | .back n => .tup [.str wBack, .str n]
  | .keep n => .tup [.str wKeep, .str n]
theorem Cm.cd {K N : List Str} {row : D} (h : Cm K N row) : ∃ c, CdOk K N c ∧ row = cmdD c := by
  cases h with
  | set hs hx =>
    rename_i s x
    have e := numB_int hx
    refine ⟨.wr s x, ⟨hs, .inr hx⟩, ?_⟩
    rw [e]
    rfl
  | del hs => rename_i s; exact ⟨.wr s .non, ⟨hs, .inl rfl⟩, rfl⟩
  | mark hs => rename_i s; exact ⟨.mark s, hs, rfl⟩
  | back hs => rename_i s; exact ⟨.back s, hs, rfl⟩
  | keep hs => rename_i s; exact ⟨.keep s, hs, rfl⟩
theorem cmdD_wr {K N : List Str} {k : Str} {x : D} (h : CdOk K N (.wr k x)) : (x = .non ∧ cmdD (.wr k x) = .tup [.str wDel, .str k]) ∨ (numB x = true ∧ cmdD (.wr k x) = .tup [.str wSet, .str k, x]) := by
  rcases h.2 with e | e
  · subst e; exact .inl ⟨rfl, rfl⟩
  · refine .inr ⟨e, ?_⟩
    rw [numB_int e]; rfl
theorem RS.nn {K N : List Str} {d : D} {s : Fm × Rp} (h : RS K N d s) : Nn s.1 ∧ ∀ m ∈ s.2, Nn m.2 := by
  obtain ⟨t, xs, h1, h2, _⟩ := h
  refine ⟨h1.nn, fun m hm => ?_⟩
  obtain ⟨x, _, _, t, ht, _⟩ := h2.all m hm
  exact ht.nn
theorem RS.not {K N : List Str} {d : D} {s : Fm × Rp} (h : RS K N d s) : isNone d = false := by
  obtain ⟨t, xs, _, _, rfl⟩ := h
  rfl
theorem isNone_empty (l : List Int) : (l.map D.int).isEmpty = l.isEmpty := by cases l <;> rfl
end Q31

namespace Q31
open PySem PySem.Spec L2 PL
theorem cut_mem {n : Str} : ∀ {r : Rp} {z : Fm × Rp}, cut n r = some z → (n, z.1) ∈ r ∧ (∀ m ∈ z.2, m ∈ r) ∧ z.2.length < r.length
  | [], _, h => by cases h
  | m :: r, z, h => by
    unfold cut at h
    by_cases e : m.1 = n
    · rw [if_pos e] at h
      cases h
      subst e
      exact ⟨List.mem_cons_self, fun x hx => List.mem_cons_of_mem _ hx, Nat.lt_succ_self _⟩
    · rw [if_neg e] at h
      obtain ⟨h1, h2, h3⟩ := cut_mem h
      exact ⟨List.mem_cons_of_mem _ h1, fun x hx => List.mem_cons_of_mem _ (h2 x hx), Nat.lt_succ_of_lt h3⟩
/-! ### states, told both ways -/
theorem RL.stt {K N : List Str} : ∀ {xs : List D} {r : Rp}, RL numB K N xs r → ∀ x ∈ xs, Mk K N x
  | [], _, _, _, hx => nomatch hx
  | x :: xs, _, h, y, hy => by
    obtain ⟨m, r', rfl, ⟨hm, t, ⟨j, d, k, e1, _⟩, rfl⟩, h⟩ := h
    rcases List.mem_cons.mp hy with rfl | hy
    · exact ⟨m.1, hm, t, ⟨j, ⟨d, k⟩, e1⟩, rfl⟩
    · exact RL.stt h y hy
theorem RS.stt {K N : List Str} {d : D} {s : Fm × Rp} (h : RS K N d s) : Stt K N s.2.length d := by
  obtain ⟨t, xs, ⟨j, dj, k, e1, _⟩, hx, rfl⟩ := h
  exact ⟨t, xs.reverse, ⟨j, ⟨dj, k⟩, e1⟩, fun x q => hx.stt x (List.mem_reverse.mp q), by rw [List.length_reverse, hx.len]; exact Nat.le_refl _, rfl⟩
theorem St.rf {K : List Str} {t : D} (h : St K t) : ∃ f, RF numB K t f := by
  obtain ⟨j, ⟨d, k⟩, e⟩ := h
  exact ⟨fun s => valD j (.inr s), j, d, k, e, fun _ => rfl⟩
theorem marks_rl {K N : List Str} : ∀ {xs : List D}, (∀ x ∈ xs, Mk K N x) → ∃ r, RL numB K N xs r
  | [], _ => ⟨[], rfl⟩
  | x :: xs, h => by
    obtain ⟨r, hr⟩ := marks_rl (xs := xs) fun y hy => h y (List.mem_cons_of_mem _ hy)
    obtain ⟨s, hs, t, ht, e⟩ := h x List.mem_cons_self
    obtain ⟨f, hf⟩ := St.rf ht
    exact ⟨(s, f) :: r, (s, f), r, rfl, ⟨hs, t, hf, e⟩, hr⟩
theorem Stt.rs {K N : List Str} {n : Nat} {d : D} (h : Stt K N n d) : ∃ s, RS K N d s ∧ s.2.length ≤ n := by
  obtain ⟨t, xs, ht, hx, hl, rfl⟩ := h
  obtain ⟨f, hf⟩ := St.rf ht
  obtain ⟨r, hr⟩ := marks_rl (xs := xs.reverse) fun x q => hx x (List.mem_reverse.mp q)
  refine ⟨(f, r), ⟨t, xs.reverse, hf, hr, by rw [List.reverse_reverse]⟩, ?_⟩
  have := hr.len
  rw [List.length_reverse] at this
  show r.length ≤ n
  omega
theorem RL.uniq {v w : D → Bool} {K N : List Str} : ∀ {xs ys : List D} {r : Rp}, RL v K N xs r → RL w K N ys r → xs = ys
  | [], [], _, _, _ => rfl
  | [], y :: ys, r, h, h2 => by
    have h : r = [] := h
    obtain ⟨m, r', e, _⟩ := h2
    rw [h] at e; cases e
  | x :: xs, [], r, h, h2 => by
    have h2 : r = [] := h2
    obtain ⟨m, r', e, _⟩ := h
    rw [h2] at e; cases e
  | x :: xs, y :: ys, _, h, h2 => by
    obtain ⟨m, r', rfl, ⟨_, t, ht, rfl⟩, h⟩ := h
    obtain ⟨m2, r2, e, ⟨_, t2, ht2, rfl⟩, h2⟩ := h2
    cases e
    rw [ht.uniq ht2, RL.uniq h h2]
theorem RS.uniq {K N : List Str} {d d' : D} {s : Fm × Rp} (h : RS K N d s) (h2 : RS K N d' s) : d = d' := by
  obtain ⟨t, xs, ht, hx, rfl⟩ := h
  obtain ⟨t2, xs2, ht2, hx2, rfl⟩ := h2
  rw [ht.uniq ht2, hx.uniq hx2]
theorem aft_len {c : Cd} {s s' : Fm × Rp} (h : aft c s = some s') : s'.2.length ≤ s.2.length + 1 := by
  cases c with
  | wr k x => cases h; exact Nat.le_succ _
  | mark n => cases h; exact Nat.le_refl _
  | back n =>
    obtain ⟨z, hz, rfl⟩ := Option.map_eq_some_iff.mp (show (cut n s.2).map (fun z => (z.1, (n, z.1) :: z.2)) = some s' from h)
    have := (cut_mem hz).2.2
    show z.2.length + 1 ≤ _
    omega
  | keep n =>
    obtain ⟨z, hz, rfl⟩ := Option.map_eq_some_iff.mp (show (cut n s.2).map (fun z => (s.1, z.2)) = some s' from h)
    have := (cut_mem hz).2.2
    show z.2.length ≤ _
    omega
/-! ### what the program does -/
theorem entry_set (k x : D) : d_entry_of (.tup [.str wSet, k, x]) = ret x := by
  unfold d_entry_of
  rw [ix0, bnd_ret, eqB_str, beq_self_eq_true, bnd_ret, if_pos rfl, ix2]
theorem entry_del (k : D) : d_entry_of (.tup [.str wDel, k]) = ret .non := by
  unfold d_entry_of
  rw [ix0, bnd_ret, eqB_str, show (wDel == Str.ofString "set") = false from w_ds, bnd_ret, if_neg (by decide)]
theorem done_fun {K N : List Str} (h : Kn K N) {here : D} {s : Fm × Rp} {c : Cd} (hs : RS K N here s) (hc : CdOk K N c) (hl : s.2.length ≤ 900) : ∃ d : D, d_done here (cmdD c) = ret d ∧ RO K N d (aft c s) := by
  obtain ⟨t, xs, ht, hx, rfl⟩ := hs
  have len := hx.len
  have lr : xs.reverse.length = xs.length := List.length_reverse
  have hnm := hx.nmd
  have hK := h.kl
  unfold d_done
  rw [unp2_tup, bnd_ret]
  cases c with
  | wr k x =>
    rcases cmdD_wr hc with ⟨rfl, e⟩ | ⟨hv, e⟩ <;> rw [e]
    · obtain ⟨d', e1, hd⟩ := RF.app hK ht.up (RF.one hc.1 (h.kw k hc.1) (x := .non) rfl)
      rw [is_write_eq, cl_ret, bnd_ret, tru_bl, bnd_ret, show (wSet == wDel || wDel == wDel) = true by rw [beq_self_eq_true]; exact Bool.or_true _, if_pos rfl, ix1, bnd_ret, entry_del, cl_ret, bnd_ret, e1, cl_ret, bnd_ret]
      exact ⟨_, rfl, d', xs, hd, hx, rfl⟩
    · obtain ⟨d', e1, hd⟩ := RF.app hK ht.up (RF.one hc.1 (h.kw k hc.1) (x := x) (num_vg x hv))
      rw [is_write_eq, cl_ret, bnd_ret, tru_bl, bnd_ret, show (wSet == wSet || wDel == wSet) = true by rw [beq_self_eq_true]; rfl, if_pos rfl, ix1, bnd_ret, entry_set, cl_ret, bnd_ret, e1, cl_ret, bnd_ret]
      exact ⟨_, rfl, d', xs, hd, hx, rfl⟩
  | mark n =>
    rw [show cmdD (.mark n) = .tup [.str wMark, .str n] from rfl]
    simp only [is_write_eq, ix0, ix1, bnd_ret, eqB_str, beq_self_eq_true, w_sm, w_dm, Bool.or_false, cl_ret, tru_bl, if_true, Bool.false_eq_true, if_false]
    rw [tup_add xs.reverse [.tup [.str n, t]] (by simp; omega), bnd_ret]
    exact ⟨_, rfl, t, .tup [.str n, t] :: xs, ht, ⟨(n, s.1), s.2, rfl, ⟨hc, t, ht, rfl⟩, hx⟩, by simp⟩
  | back n =>
    rw [show cmdD (.back n) = .tup [.str wBack, .str n] from rfl]
    simp only [is_write_eq, ix0, ix1, bnd_ret, eqB_str, w_sb, w_db, w_bm, Bool.or_false, cl_ret, tru_bl, Bool.false_eq_true, if_false]
    rw [nearest_eq hnm (by omega), cl_ret, bnd_ret]
    have q := near_ok n hx
    rw [show aft (.back n) s = (cut n s.2).map fun z => (z.1, (n, z.1) :: z.2) from rfl]
    cases e : cut n s.2 with
    | none =>
      rw [e] at q
      rw [plD_none q]
      exact ⟨_, rfl, rfl⟩
    | some z =>
      rw [e] at q
      obtain ⟨y, ys, q1, q2, q3, q4, q5, q6⟩ := q
      obtain ⟨hn, u, hu, ey⟩ := q1
      rw [plD_last q3, show isNone (D.int (ys.length : Int)) = false from rfl, if_neg (by decide), beq_self_eq_true, if_pos rfl]
      simp only [intI_int, bnd_ret]
      rw [ix_t (atI_nat q6), bnd_ret, ey, ix1, bnd_ret, succ_cast, slD_tup, bnd_ret, cut_take, q5]
      exact ⟨_, rfl, u, y :: ys, hu, ⟨(n, z.1), z.2, rfl, ⟨hn, u, hu, ey⟩, q2⟩, rfl⟩
  | keep n =>
    rw [show cmdD (.keep n) = .tup [.str wKeep, .str n] from rfl]
    simp only [is_write_eq, ix0, ix1, bnd_ret, eqB_str, w_sk, w_dk, w_km, w_kb, Bool.or_false, cl_ret, tru_bl, Bool.false_eq_true, if_false]
    rw [nearest_eq hnm (by omega), cl_ret, bnd_ret]
    have q := near_ok n hx
    rw [show aft (.keep n) s = (cut n s.2).map fun z => (s.1, z.2) from rfl]
    cases e : cut n s.2 with
    | none =>
      rw [e] at q
      rw [plD_none q]
      exact ⟨_, rfl, rfl⟩
    | some z =>
      rw [e] at q
      obtain ⟨y, ys, q1, q2, q3, q4, q5, q6⟩ := q
      rw [plD_last q3, show isNone (D.int (ys.length : Int)) = false from rfl, if_neg (by decide)]
      simp only [intI_int, bnd_ret]
      rw [slD_tup, bnd_ret, cut_take, q4]
      exact ⟨_, rfl, t, ys, ht, q2, rfl⟩
theorem cmdD_ok {K N : List Str} {c : Cd} (h : CdOk K N c) : Cm K N (cmdD c) := by
  cases c with
  | wr k x =>
    rcases cmdD_wr h with ⟨rfl, e⟩ | ⟨hv, e⟩ <;> rw [e]
    · exact .del h.1
    · exact .set h.1 hv
  | mark n => exact .mark h
  | back n => exact .back h
  | keep n => exact .keep h
abbrev tDone : Str := Str.ofString "done"
abbrev tRef : Str := Str.ofString "refused"
def OutD (K N : List Str) (o : D) : Option (Fm × Rp) → Prop
  | none => ∃ i : Int, o = .tup [.str tRef, .int i]
  | some s => ∃ d, o = .tup [.str tDone, d] ∧ RS K N d s
theorem outcome_run {K N : List Str} (h : Kn K N) : ∀ (cs : List Cd) (i : Nat) (s : Fm × Rp) (here : D), RS K N here s → (∀ c ∈ cs, CdOk K N c) → s.2.length + cs.length ≤ 900 →
    ∃ o : D, forT (fun (p : Int × D) (j : D) => bnd (cl (d_done j p.2)) fun state1 => if (isNone state1) = true then ret (.out (.tup [(.str (Str.ofString "refused")), (.int p.1)])) else ret (.go state1)) (fun j1 => ret (.tup [(.str (Str.ofString "done")), j1])) (enumZ i (cs.map cmdD)) here = ret o ∧ OutD K N o (walk cs s)
  | [], i, s, here, hs, _, _ => ⟨_, rfl, here, rfl, hs⟩
  | c :: cs, i, s, here, hs, hc, hl => by
    rw [List.length_cons] at hl
    obtain ⟨d, e, hd⟩ := done_fun h hs (hc c List.mem_cons_self) (by omega)
    show ∃ o : D, bnd (bnd (cl (d_done here (cmdD c))) _) _ = ret o ∧ OutD K N o ((aft c s).bind (walk cs))
    rw [e, cl_ret, bnd_ret]
    cases ha : aft c s with
    | none =>
      rw [ha] at hd
      have hd : d = .non := hd
      subst hd
      exact ⟨_, rfl, i, rfl⟩
    | some s' =>
      rw [ha] at hd
      have hd : RS K N d s' := hd
      rw [hd.not, if_neg (by decide)]
      have := aft_len ha
      exact outcome_run h cs (i + 1) s' d hd (fun x hx => hc x (List.mem_cons_of_mem _ hx)) (by omega)
theorem outcome_fun {K N : List Str} (h : Kn K N) {cs : List Cd} {s : Fm × Rp} {here : D} (hs : RS K N here s) (hc : ∀ c ∈ cs, CdOk K N c) (hl : s.2.length + cs.length ≤ 900) (h6 : cs.length ≤ 60) : ∃ o : D, d_outcome here (.lst (cs.map cmdD)) = ret o ∧ OutD K N o (walk cs s) := by
  unfold d_outcome
  rw [need_ok (.inl rfl) (by rw [List.length_map]; exact h6) (fun r hr => by
    obtain ⟨c, hcm, rfl⟩ := List.mem_map.mp hr
    exact is_command_ok h (cmdD_ok (hc c hcm))), cl_ret, bnd_ret]
  show ∃ o : D, bnd (ret (enumZ 0 (cs.map cmdD))) _ = ret o ∧ _
  rw [bnd_ret]
  exact outcome_run h cs 0 s here hs hc hl
end Q31

namespace Q31
open PySem PySem.Spec L2 PL
/-! ### the law's model: dicts -/
def RJ (K : List Str) (j : List (Key × D)) (f : Fm) : Prop := DI numB j ∧ (∀ s ∈ keysS j, s ∈ K) ∧ ∀ s, valD j (.inr s) = f s
theorem RJ.rf {K : List Str} {j : List (Key × D)} {f : Fm} (h : RJ K j f) : RF numB K (.tup (pairsOf j)) f := ⟨j, h.1, h.2.1, rfl, h.2.2⟩
theorem RJ.len {K : List Str} {j : List (Key × D)} {f : Fm} (h : RJ K j f) : j.length ≤ K.length := DI.lenK h.1 h.2.1
def HM (K N : List Str) (x : D) (m : Str × Fm) : Prop := m.1 ∈ N ∧ ∃ j, RJ K j m.2 ∧ x = .tup [.str m.1, .dic j]
def HL (K N : List Str) : List D → Rp → Prop
  | [], r => r = []
  | x :: xs, r => ∃ m r', r = m :: r' ∧ HM K N x m ∧ HL K N xs r'
section
variable {K N : List Str}
theorem HL.len : ∀ {xs : List D} {r : Rp}, HL K N xs r → xs.length = r.length
  | [], r, h => by
    have h : r = [] := h
    rw [h]
    rfl
  | x :: xs, _, h => by
    obtain ⟨m, r', rfl, _, h⟩ := h
    show xs.length + 1 = r'.length + 1
    rw [HL.len h]
theorem HL.allX : ∀ {xs : List D} {r : Rp}, HL K N xs r → ∀ x ∈ xs, ∃ m ∈ r, HM K N x m
  | [], _, _, x, hx => nomatch hx
  | x :: xs, _, h, y, hy => by
    obtain ⟨m', r', rfl, h1, h⟩ := h
    rcases List.mem_cons.mp hy with rfl | hy
    · exact ⟨m', List.mem_cons_self, h1⟩
    · obtain ⟨m, hm, h2⟩ := HL.allX h y hy
      exact ⟨m, List.mem_cons_of_mem _ hm, h2⟩
theorem HL.nmd {xs : List D} {r : Rp} (h : HL K N xs r) : ∀ x ∈ xs.reverse, Nmd x := fun x hx => by
  obtain ⟨m, _, _, t, _, e⟩ := h.allX x (List.mem_reverse.mp hx)
  exact ⟨m.1, [.dic t], e⟩
theorem HM.nm {x : D} {m : Str × Fm} (h : HM K N x m) (n : Str) : nmB n x = (m.1 == n) := by
  obtain ⟨_, t, _, rfl⟩ := h
  rfl
theorem cutH (n : Str) : ∀ {xs : List D} {r : Rp}, HL K N xs r → match cut n r with
    | none => ∀ x ∈ xs, nmB n x = false
    | some z => ∃ pre y ys, xs = pre ++ y :: ys ∧ HM K N y (n, z.1) ∧ HL K N ys z.2 ∧ ∀ x ∈ pre, nmB n x = false
  | [], r, h => by
    have h : r = [] := h
    rw [h]; exact fun x hx => nomatch hx
  | x :: xs, _, h => by
    obtain ⟨m, r', rfl, h1, h⟩ := h
    show match (if m.1 = n then some (m.2, r') else cut n r') with | none => _ | some z => _
    by_cases e : m.1 = n
    · rw [if_pos e]
      subst e
      exact ⟨[], x, xs, rfl, h1, h, fun x hx => nomatch hx⟩
    · rw [if_neg e]
      have q := cutH n h
      have hx : nmB n x = false := by rw [h1.nm]; exact beq_false_of_ne e
      cases ec : cut n r' with
      | none =>
        rw [ec] at q
        intro y hy
        rcases List.mem_cons.mp hy with rfl | hy
        · exact hx
        · exact q y hy
      | some z =>
        rw [ec] at q
        obtain ⟨pre, y, ys, rfl, q1, q2, q3⟩ := q
        refine ⟨x :: pre, y, ys, rfl, q1, q2, fun w hw => ?_⟩
        rcases List.mem_cons.mp hw with rfl | hw
        · exact hx
        · exact q3 w hw
end
/-- the nearest mark -/
theorem near_okH {K N : List Str} (n : Str) {xs : List D} {r : Rp} (h : HL K N xs r) : match cut n r with
    | none => places xs.reverse n = []
    | some z => ∃ y ys, HM K N y (n, z.1) ∧ HL K N ys z.2 ∧ (places xs.reverse n).getLast? = some (ys.length : Int) ∧ xs.reverse.take ys.length = ys.reverse ∧ xs.reverse.take (ys.length + 1) = (y :: ys).reverse ∧ xs.reverse[ys.length]? = some y := by
  have q := cutH n h
  cases e : cut n r with
  | none =>
    rw [e] at q
    exact places_none fun x hx => q x (List.mem_reverse.mp hx)
  | some z =>
    rw [e] at q
    obtain ⟨pre, y, ys, rfl, q1, q2, q3⟩ := q
    have er : (pre ++ y :: ys).reverse = ys.reverse ++ (y :: pre.reverse) := by simp
    refine ⟨y, ys, q1, q2, places_last (by rw [q1.nm]; exact beq_self_eq_true _) pre q3, ?_, ?_, ?_⟩
    · rw [er, List.take_append_of_le_length (by simp)]
      exact List.take_of_length_le (by simp)
    · rw [er, List.reverse_cons, show ys.reverse ++ y :: pre.reverse = (ys.reverse ++ [y]) ++ pre.reverse by simp, List.take_append_of_le_length (by simp)]
      exact List.take_of_length_le (by simp)
    · rw [er, List.getElem?_append_right (by simp)]
      simp
end Q31

namespace Q31
open PySem PySem.Spec L2 PL
def RH (K N : List Str) (h : D) (s : Fm × Rp) : Prop := ∃ j ms, RJ K j s.1 ∧ HL K N ms s.2 ∧ h = .tup [.dic j, .lst ms.reverse]
def ROH (K N : List Str) (d : D) : Option (Fm × Rp) → Prop
  | none => d = .non
  | some s => RH K N d s
theorem RH.not {K N : List Str} {d : D} {s : Fm × Rp} (h : RH K N d s) : isNone d = false := by
  obtain ⟨_, _, _, _, rfl⟩ := h
  rfl
theorem RJ.wrt {K : List Str} {j : List (Key × D)} {f : Fm} (h : RJ K j f) {k : Str} {x : D} (hk : k ∈ K) (hw : wordB (.str k) = true) (hx : vg true x = true) : RJ K (wrt j k x) (appF f (oneF k x)) := by
  have hn := h.rf.nn
  obtain ⟨d, ks, e⟩ := h
  have ev : ∀ s, valD (PL.wrt j k x) (.inr s) = appF f (oneF k x) s := fun s => by
    rw [wrt_val]
    unfold appF oneF
    by_cases q : s = k
    · rw [if_pos q, if_pos q]
      show _ = (some x).filter _
      cases z : isNone x <;> simp [Option.filter, z]
    · rw [if_neg q, if_neg q, e]
      exact (hn s).symm
  refine ⟨wrt_DI d hw hx, fun s hs => ?_, ev⟩
  rcases wrt_keys d hw hx hs with q | q
  · rw [q]; exact hk
  · exact ks s q
/-! pairs of a dict -/
theorem RJ.shape {K : List Str} {j : List (Key × D)} {f : Fm} (h : RJ K j f) : ∀ kv ∈ j, ∃ s i, kv = (.inr s, .int i) ∧ s.length ≤ 8 := fun kv hk => by
  obtain ⟨s, e1, hw, hv⟩ := h.1.1 kv hk
  obtain ⟨k, x⟩ := kv
  have e1 : k = .inr s := e1
  subst e1
  have ev : x = .int (match x with | .int i => i | _ => 0) := by
    cases x with
    | int i => rfl
    | _ => simp [numB] at hv
  simp only [wordB, Bool.and_eq_true, decide_eq_true_eq] at hw
  exact ⟨s, _, by rw [ev], by omega⟩
theorem items_ret {j : List (Key × D)} (hl : j.length ≤ 1000) (h : ∀ kv ∈ j, ∃ s i, kv = ((.inr s : Key), D.int i) ∧ s.length ≤ 8) : itemsXD (.dic j) = ret (itemsL j) := by
  show bnd (ret j) itemsW = _
  rw [bnd_ret]
  refine grd_pos ⟨by rw [sizeLine_eq]; omega, fun kv hk s e => ?_⟩ _
  obtain ⟨s', i, e2, hs⟩ := h kv hk
  rw [e2] at e
  cases e
  rw [sizeLine_eq]
  omega
def pk (k : Str) (x : D) : Bool := match x with
  | .tup (.str a :: _) => !(a == k)
  | _ => true
theorem items_drop (k : Str) : ∀ {j : List (Key × D)}, (∀ kv ∈ j, ∃ s i, kv = ((.inr s : Key), D.int i) ∧ s.length ≤ 8) → (itemsL j).filter (pk k) = itemsL (dropD j (.inr k))
  | [], _ => rfl
  | kv :: j, h => by
    obtain ⟨s, i, rfl, _⟩ := h kv List.mem_cons_self
    have ih := items_drop k (j := j) fun x hx => h x (List.mem_cons_of_mem _ hx)
    show (D.tup [.str s, .int i] :: itemsL j).filter (pk k) = itemsL (((Sum.inr s, D.int i) :: j).filter fun kv => decide (kv.1 ≠ .inr k))
    by_cases e : s = k
    · rw [List.filter_cons_of_neg (by show ¬ (!(s == k)) = true; rw [e, beq_self_eq_true]; decide), List.filter_cons_of_neg (by simp [e]), ih]
      rfl
    · rw [List.filter_cons_of_pos (by show (!(s == k)) = true; rw [beq_false_of_ne e]; rfl), List.filter_cons_of_pos (by simp [e]), ih]
      rfl
theorem pairsL_items : ∀ {j : List (Key × D)}, (∀ kv ∈ j, ∃ s i, kv = ((.inr s : Key), D.int i) ∧ s.length ≤ 8) → pairsL (itemsL j) = some j
  | [], _ => rfl
  | kv :: j, h => by
    obtain ⟨s, i, rfl, _⟩ := h kv List.mem_cons_self
    have ih := pairsL_items (j := j) fun x hx => h x (List.mem_cons_of_mem _ hx)
    show (match keyD (.str s), pairsL (itemsL j) with | some kk, some l => some ((kk, D.int i) :: l) | _, _ => none) = _
    rw [ih]
    rfl
theorem dict_items {v : D → Bool} {j : List (Key × D)} (hd : DI v j) (h : ∀ kv ∈ j, ∃ s i, kv = ((.inr s : Key), D.int i) ∧ s.length ≤ 8) : dictW (.lst (itemsL j)) = ret j := by
  show bnd (optW (pairsL (itemsL j))) _ = _
  rw [pairsL_items h]
  show bnd (ret j) _ = _
  rw [bnd_ret, merge_nil hd]
theorem later_eq {K : List Str} (hK : K.length ≤ 8) {j : List (Key × D)} {f : Fm} (h : RJ K j f) {deed : D} {k : Str} (hd : ixD deed (.int 1) = ret (.str k)) :
    (bnd (itemsXD (.dic j)) fun pairs => bnd (selP (fun pair => bnd (ixD pair (.int 0)) fun y1 => bnd (ixD deed (.int 1)) fun y2 => bnd (neB y1 y2) fun k2 => ret k2) (fun pair => ret pair) pairs) fun xs => dictW (.lst xs)) = ret (dropD j (.inr k)) := by
  have hl := h.len
  have hs := h.shape
  have hsd : ∀ kv ∈ dropD j (.inr k), ∃ s i, kv = ((.inr s : Key), D.int i) ∧ s.length ≤ 8 := fun kv hk => hs kv (List.mem_filter.mp hk).1
  rw [items_ret (by omega) hs, bnd_ret, selP_ret (p := pk k) (g := fun x => x) (by unfold itemsL; rw [List.length_map]; omega) (fun x hx => ?_) (fun _ _ _ => rfl), bnd_ret, List.map_id', items_drop k hs]
  · exact dict_items (dropD_DI h.1 _) hsd
  · unfold itemsL at hx
    obtain ⟨kv, hkv, rfl⟩ := List.mem_map.mp hx
    obtain ⟨s, i, rfl, _⟩ := hs kv hkv
    show bnd (ixD (.tup [.str s, .int i]) (.int 0)) _ = _
    rw [ix0, bnd_ret, hd, bnd_ret, neB_str, bnd_ret]
    rfl
theorem sel_places {xs : List D} {s : Str} (hx : ∀ x ∈ xs, Nmd x) (hl : xs.length ≤ 1000) {deed : D} (hd : ixD deed (.int 1) = ret (.str s)) :
    selP (fun atV => bnd (ixD (.lst xs) (.int atV)) fun y8 => bnd (ixD y8 (.int 0)) fun y9 => bnd (ixD deed (.int 1)) fun y10 => bnd (eqB y9 y10) fun k5 => ret k5) (fun atV => ret (.int atV)) (rngZ 0 xs.length) = ret ((places xs s).map .int) :=
  places_eq hx hl fun i => by
    rw [hd]
    simp only [bnd_ret]
    rfl
theorem do_fun {K N : List Str} (h : Kn K N) {house : D} {s : Fm × Rp} {c : Cd} (hs : RH K N house s) (hc : CdOk K N c) (hl : s.2.length ≤ 900) : ∃ d : D, d_l_do house (cmdD c) = ret d ∧ ROH K N d (aft c s) := by
  obtain ⟨j, xs, ht, hx, rfl⟩ := hs
  have len := hx.len
  have lr : xs.reverse.length = xs.length := List.length_reverse
  have hnm := hx.nmd
  have hK := h.kl
  unfold d_l_do
  rw [show unp2 (.tup [.dic j, .lst xs.reverse]) = ret (.dic j, .lst xs.reverse) from rfl, bnd_ret]
  cases c with
  | wr k x =>
    have hlj := ht.len
    have hld : (dropD j (.inr k)).length ≤ j.length := List.length_filter_le _ _
    rcases cmdD_wr hc with ⟨rfl, e⟩ | ⟨hv, e⟩ <;> rw [e]
    · rw [later_eq hK ht (k := k) (ix1 _ _ _)]
      simp only [ix0, bnd_ret, in_two, blB_bl, eqB_str, beq_self_eq_true, Bool.or_true, if_true, w_ds, Bool.false_eq_true, if_false]
      exact ⟨_, rfl, _, xs, ht.wrt hc.1 (h.kw k hc.1) (x := .non) rfl, hx, rfl⟩
    · rw [later_eq hK ht (k := k) (ix1 _ _ _)]
      simp only [ix0, ix1, ix2, bnd_ret, in_two, blB_bl, eqB_str, beq_self_eq_true, Bool.true_or, if_true]
      rw [putW_ok (by omega), bnd_ret, bnd_ret]
      have hn : isNone x = false := by cases x <;> first | rfl | cases hv
      have ew : putD (dropD j (.inr k)) (.inr k) x = wrt j k x := by
        unfold wrt
        rw [hn, if_neg (by decide)]
      rw [ew]
      exact ⟨_, rfl, _, xs, ht.wrt hc.1 (h.kw k hc.1) (num_vg x hv), hx, rfl⟩
  | mark n =>
    rw [show cmdD (.mark n) = .tup [.str wMark, .str n] from rfl]
    simp only [ix0, ix1, bnd_ret, in_two, blB_bl, eqB_str, beq_self_eq_true, w_sm, w_dm, Bool.or_false, if_true, Bool.false_eq_true, if_false]
    rw [lst_add xs.reverse [.tup [.str n, .dic j]] (by simp; omega), bnd_ret]
    exact ⟨_, rfl, j, .tup [.str n, .dic j] :: xs, ht, ⟨(n, s.1), s.2, rfl, ⟨hc, j, ht, rfl⟩, hx⟩, by simp⟩
  | back n =>
    rw [show cmdD (.back n) = .tup [.str wBack, .str n] from rfl]
    rw [show lenI (.lst xs.reverse) = ret (xs.reverse.length : Int) from rfl, bnd_ret, rngI_ret (by omega), bnd_ret, Int.toNat_natCast, sel_places hnm (by omega) (s := n) (ix1 _ _ _)]
    simp only [ix0, ix1, bnd_ret, in_two, blB_bl, eqB_str, w_sb, w_db, w_bm, Bool.or_false, Bool.false_eq_true, if_false, beq_self_eq_true, if_true]
    have q := near_okH n hx
    rw [show aft (.back n) s = (cut n s.2).map fun z => (z.1, (n, z.1) :: z.2) from rfl]
    cases e : cut n s.2 with
    | none =>
      rw [e] at q
      rw [q, List.map_nil, eqB_nil, bnd_ret]
      exact ⟨_, rfl, rfl⟩
    | some z =>
      rw [e] at q
      obtain ⟨y, ys, q1, q2, q3, q4, q5, q6⟩ := q
      obtain ⟨hne, el⟩ := last_of q3
      obtain ⟨hn, u, hu, ey⟩ := q1
      rw [eqB_nil, bnd_ret, isNone_empty, show (places xs.reverse n).isEmpty = false by cases z : places xs.reverse n <;> simp_all, if_neg (by decide), ix_last hne, el, bnd_ret]
      simp only [intI_int, bnd_ret]
      rw [ix_l (atI_nat q6), bnd_ret, ey, ix1, bnd_ret, succ_cast, slD_lst, bnd_ret, cut_take, q5]
      exact ⟨_, rfl, u, y :: ys, hu, ⟨(n, z.1), z.2, rfl, ⟨hn, u, hu, ey⟩, q2⟩, rfl⟩
  | keep n =>
    rw [show cmdD (.keep n) = .tup [.str wKeep, .str n] from rfl]
    rw [show lenI (.lst xs.reverse) = ret (xs.reverse.length : Int) from rfl, bnd_ret, rngI_ret (by omega), bnd_ret, Int.toNat_natCast, sel_places hnm (by omega) (s := n) (ix1 _ _ _)]
    simp only [ix0, ix1, bnd_ret, in_two, blB_bl, eqB_str, w_sk, w_dk, w_km, w_kb, Bool.or_false, Bool.false_eq_true, if_false]
    have q := near_okH n hx
    rw [show aft (.keep n) s = (cut n s.2).map fun z => (s.1, z.2) from rfl]
    cases e : cut n s.2 with
    | none =>
      rw [e] at q
      rw [q, List.map_nil, eqB_nil, bnd_ret]
      exact ⟨_, rfl, rfl⟩
    | some z =>
      rw [e] at q
      obtain ⟨y, ys, q1, q2, q3, q4, q5, q6⟩ := q
      obtain ⟨hne, el⟩ := last_of q3
      rw [eqB_nil, bnd_ret, isNone_empty, show (places xs.reverse n).isEmpty = false by cases z : places xs.reverse n <;> simp_all, if_neg (by decide), ix_last hne, el, bnd_ret]
      simp only [intI_int, bnd_ret]
      rw [slD_lst, bnd_ret, cut_take, q4]
      exact ⟨_, rfl, j, ys, ht, q2, rfl⟩
end Q31

namespace Q31
open PySem PySem.Spec L2 PL
theorem run_run {K N : List Str} (h : Kn K N) : ∀ (cs : List Cd) (d : D) (o : Option (Fm × Rp)), ROH K N d o → (∀ c ∈ cs, CdOk K N c) → (∀ s, o = some s → s.2.length + cs.length ≤ 900) →
    ∃ d' : D, forT (fun (deed : D) (j : D) => if (!isNone j) = true then bnd (cl (d_l_do j deed)) fun house1 => ret (.go house1) else ret (.go j)) (fun j1 => ret j1) (cs.map cmdD) d = ret d' ∧ ROH K N d' (o.bind (walk cs))
  | [], d, o, hd, _, _ => ⟨d, rfl, by cases o <;> exact hd⟩
  | c :: cs, d, none, hd, hc, hl => by
    have hd : d = .non := hd
    subst hd
    show ∃ d' : D, bnd (if (!isNone D.non) = true then _ else _) _ = ret d' ∧ _
    rw [if_neg (by decide), bnd_ret]
    exact run_run h cs .non none rfl (fun x hx => hc x (List.mem_cons_of_mem _ hx)) fun s e => nomatch e
  | c :: cs, d, some s, hd, hc, hl => by
    have hd : RH K N d s := hd
    have hl := hl s rfl
    rw [List.length_cons] at hl
    obtain ⟨d1, e1, h1⟩ := do_fun h hd (hc c List.mem_cons_self) (by omega)
    show ∃ d' : D, bnd (if (!isNone d) = true then bnd (cl (d_l_do d (cmdD c))) _ else _) _ = ret d' ∧ ROH K N d' ((aft c s).bind (walk cs))
    rw [hd.not, Bool.not_false, if_pos rfl, e1, cl_ret, bnd_ret, bnd_ret]
    exact run_run h cs d1 (aft c s) h1 (fun x hx => hc x (List.mem_cons_of_mem _ hx)) fun s' e => by
      have := aft_len e
      omega
theorem l_run_fun {K N : List Str} (h : Kn K N) {cs : List Cd} {s : Fm × Rp} {house : D} (hs : RH K N house s) (hc : ∀ c ∈ cs, CdOk K N c) (hl : s.2.length + cs.length ≤ 900) : ∃ d : D, d_l_run house (.lst (cs.map cmdD)) = ret d ∧ ROH K N d (walk cs s) := by
  unfold d_l_run
  rw [items_lst, bnd_ret]
  exact run_run h cs house (some s) hs hc fun s' e => by cases e; exact hl
/-! ### opened, shut -/
theorem RF.open {K : List Str} {t : D} {f : Fm} (h : RF numB K t f) : ∃ (xs : List D) (j : List (Key × D)), items t = PL.ret xs ∧ dictW (.lst xs) = PL.ret j ∧ RJ K j f := by
  obtain ⟨j, d, k, rfl, e⟩ := h
  refine ⟨pairsOf j, sortK j, rfl, dictW_of d, sortK_DI d, fun s hs => ?_, fun s => (sortK_val d s).trans (e s)⟩
  exact k s ((mem_keysS d s).mpr (by rw [← sortK_val d]; exact (mem_keysS (sortK_DI d) s).mp hs))
def opM (x : D) : W D := bnd (ixD x (.int 0)) fun y2 => bnd (ixD x (.int 1)) fun y3 => bnd (items y3) fun xs2 => bnd (dictW (.lst xs2)) fun kvs1 => ret (.tup [y2, (.dic kvs1)])
theorem open_marks {K N : List Str} : ∀ {xs : List D} {r : Rp}, RL numB K N xs r → ∃ ys : List D, ys.length = xs.length ∧ HL K N ys r ∧ ∀ (i : Nat) (x : D), xs[i]? = some x → ∃ y, ys[i]? = some y ∧ opM x = PL.ret y
  | [], r, h => ⟨[], rfl, h, fun i x e => by simp at e⟩
  | x :: xs, _, h => by
    obtain ⟨m, r', rfl, ⟨hm, t, ht, rfl⟩, h⟩ := h
    obtain ⟨ys, l, hl, ho⟩ := open_marks h
    obtain ⟨ps, j, e1, e2, hj⟩ := ht.open
    refine ⟨.tup [.str m.1, .dic j] :: ys, by rw [List.length_cons, List.length_cons, l], ⟨m, r', rfl, ⟨hm, j, hj, rfl⟩, hl⟩, fun i x e => ?_⟩
    cases i with
    | zero =>
      cases e
      refine ⟨_, rfl, ?_⟩
      unfold opM
      rw [ix0, bnd_ret, ix1, bnd_ret, e1, bnd_ret, e2, bnd_ret]
    | succ i => exact ho i x e
theorem map_at {f : D → W D} : ∀ {xs ys : List D}, ys.length = xs.length → (∀ (i : Nat) (x : D), xs[i]? = some x → ∃ y, ys[i]? = some y ∧ f x = PL.ret y) → compP (fun x => bnd (f x) fun y => ret (some y)) xs = ret ys
  | [], [], _, _ => rfl
  | [], _ :: _, h, _ => by cases h
  | _ :: _, [], h, _ => by cases h
  | x :: xs, y :: ys, h, hf => by
    obtain ⟨y', e1, e2⟩ := hf 0 x rfl
    cases e1
    show bnd (bnd (f x) fun y => ret (some y)) _ = _
    rw [e2, bnd_ret, bnd_ret, map_at (Nat.succ.inj h) fun i z hz => hf (i + 1) z hz]
    show bnd (PL.ret ys) _ = _
    rw [bnd_ret]
theorem mapP_at {f : D → W D} {xs ys : List D} (hn : xs.length ≤ 1000000) (h : ys.length = xs.length) (hf : ∀ (i : Nat) (x : D), xs[i]? = some x → ∃ y, ys[i]? = some y ∧ f x = PL.ret y) : mapP f xs = ret ys := by
  unfold mapP
  rw [fewN_pos hn, map_at h hf]
  rfl
theorem rev_at {f : D → W D} {xs ys : List D} (h : ys.length = xs.length) (hf : ∀ (i : Nat) (x : D), xs[i]? = some x → ∃ y, ys[i]? = some y ∧ f x = PL.ret y) : ∀ (i : Nat) (x : D), xs.reverse[i]? = some x → ∃ y, ys.reverse[i]? = some y ∧ f x = PL.ret y := fun i x e => by
  have hi : i < xs.length := by
    have := (List.getElem?_eq_some_iff.mp e).1
    rwa [List.length_reverse] at this
  rw [List.getElem?_reverse hi] at e
  obtain ⟨y, e1, e2⟩ := hf _ x e
  refine ⟨y, ?_, e2⟩
  rw [List.getElem?_reverse (by omega), h]
  exact e1
theorem opened_fun {K N : List Str} {house : D} {s : Fm × Rp} (hs : RS K N house s) (hl : s.2.length ≤ 900) : ∃ h : D, d_l_opened house = ret h ∧ RH K N h s := by
  obtain ⟨t, xs, ht, hx, rfl⟩ := hs
  have len := hx.len
  obtain ⟨ps, j, e1, e2, hj⟩ := ht.open
  obtain ⟨ys, l, hy, ho⟩ := open_marks hx
  unfold d_l_opened
  rw [ix0, bnd_ret, e1, bnd_ret, e2, bnd_ret, ix1, bnd_ret, items_tup, bnd_ret]
  show ∃ h : D, bnd (mapP opM xs.reverse) _ = ret h ∧ _
  rw [mapP_at (ys := ys.reverse) (by rw [List.length_reverse]; omega) (by rw [List.length_reverse, List.length_reverse, l]) (rev_at l ho), bnd_ret]
  exact ⟨_, rfl, j, ys, hj, hy, rfl⟩
def toSI (j : List (Key × D)) : List (Str × Int) := j.map fun kv => (keyS kv.1, match kv.2 with | .int i => i | _ => 0)
theorem items_si : ∀ {j : List (Key × D)}, (∀ kv ∈ j, ∃ s i, kv = ((.inr s : Key), D.int i) ∧ s.length ≤ 8) → itemsL j = (toSI j).map siD
  | [], _ => rfl
  | kv :: j, h => by
    obtain ⟨s, i, rfl, _⟩ := h kv List.mem_cons_self
    have ih := items_si (j := j) fun x hx => h x (List.mem_cons_of_mem _ hx)
    show D.tup [.str s, .int i] :: itemsL j = siD (s, i) :: (toSI j).map siD
    rw [ih]
    rfl
theorem nodup_map {α β : Type} (f : α → β) {l : List α} (h : (l.map f).Nodup) : l.Nodup := (List.pairwise_map.mp h).imp fun {a b} h e => h (congrArg f e)
theorem shut_pairs {K : List Str} (hK : K.length ≤ 8) {j : List (Key × D)} {f : Fm} (h : RJ K j f) : (bnd (itemsXD (.dic j)) fun pairs => sortGW (.lst pairs)) = ret (pairsOf j) := by
  have hl := h.len
  have hsh := h.shape
  rw [items_ret (by omega) hsh, bnd_ret, items_si hsh]
  show bnd (optW (siL ((toSI j).map siD))) _ = _
  rw [siL_siD]
  show bnd (ret (toSI j)) _ = _
  rw [bnd_ret]
  have nd := keysS_nodup h.1
  have ek : (toSI j).map (·.1) = keysS j := by unfold toSI keysS; rw [List.map_map]; rfl
  have key : ∀ s ∈ keysS j, ∃ i, valS j s = .int i ∧ (s, i) ∈ toSI j := fun s hs => by
    obtain ⟨kv, hkv, e⟩ := List.mem_map.mp hs
    obtain ⟨s', i, rfl, _⟩ := hsh kv hkv
    have e : s' = s := e
    subst e
    have hv := valD_of h.1 _ hkv
    refine ⟨i, ?_, List.mem_map.mpr ⟨_, hkv, rfl⟩⟩
    unfold valS
    rw [hv]
    rfl
  let iv : Str → Int := fun s => match valS j s with | .int i => i | _ => 0
  have hiv : ∀ s ∈ keysS j, valS j s = .int (iv s) ∧ (s, iv s) ∈ toSI j := fun s hs => by
    obtain ⟨i, e1, e2⟩ := key s hs
    have : iv s = i := by show (match valS j s with | .int i => i | _ => 0) = i; rw [e1]
    rw [this]
    exact ⟨e1, e2⟩
  have hm : sortSI (toSI j) = (sortT (keysS j)).map fun s => (s, iv s) := by
    refine sortSI_uniq ?_ ?_
    · have n1 : (toSI j).Nodup := nodup_map (·.1) (by rw [ek]; exact nd)
      have n2 : ((sortT (keysS j)).map fun s => (s, iv s)).Nodup := nodup_map (·.1) (by
        rw [List.map_map]
        show ((sortT (keysS j)).map fun s => s).Nodup
        rw [List.map_id']
        exact sortT_nodup nd)
      refine (List.perm_ext_iff_of_nodup n2 n1).mpr fun p => ⟨fun hp => ?_, fun hp => ?_⟩
      · obtain ⟨s, hs, rfl⟩ := List.mem_map.mp hp
        exact (hiv s (sortT_mem.mp hs)).2
      · obtain ⟨kv, hkv, rfl⟩ := List.mem_map.mp hp
        obtain ⟨s, i, rfl, _⟩ := hsh kv hkv
        have hsk : s ∈ keysS j := List.mem_map.mpr ⟨_, hkv, rfl⟩
        have hv := valD_of h.1 _ hkv
        have e1 := (hiv s hsk).1
        unfold valS at e1
        rw [hv] at e1
        have e1 : D.int i = .int (iv s) := e1
        refine List.mem_map.mpr ⟨s, sortT_mem.mpr hsk, ?_⟩
        show (s, iv s) = (s, i)
        rw [D.int.inj e1]
    · refine List.pairwise_map.mpr ((sortT_lt nd).imp fun {a b} hab => ?_)
      rw [lexLe_iff]
      have hab : a.cps.toList < b.cps.toList := of_decide_eq_true hab
      rintro (z | ⟨z, _⟩)
      · exact List.lt_asymm hab z
      · have z : b = a := z
        rw [z] at hab
        exact List.lt_irrefl _ hab
  rw [hm, List.map_map]
  unfold pairsOf
  refine congrArg PL.ret (List.map_congr_left fun s hs => ?_)
  show siD (s, iv s) = .tup [.str s, valS j s]
  rw [(hiv s (sortT_mem.mp hs)).1]
  rfl
end Q31

namespace Q31
open PySem PySem.Spec L2 PL
/-! ### a state shut, scripts alike -/
def shM (x : D) : W D := bnd (ixD x (.int 0)) fun y1 => bnd (ixD x (.int 1)) fun y2 => bnd (itemsXD y2) fun pairs => bnd (sortGW (.lst pairs)) fun xs1 => ret (.tup [y1, (.tup xs1)])
theorem shut_marks {K N : List Str} (hK : K.length ≤ 8) : ∀ {xs : List D} {r : Rp}, HL K N xs r → ∃ ys : List D, ys.length = xs.length ∧ RL numB K N ys r ∧ ∀ (i : Nat) (x : D), xs[i]? = some x → ∃ y, ys[i]? = some y ∧ shM x = PL.ret y
  | [], r, h => ⟨[], rfl, h, fun i x e => by simp at e⟩
  | x :: xs, _, h => by
    obtain ⟨m, r', rfl, ⟨hm, j, hj, rfl⟩, h⟩ := h
    obtain ⟨ys, l, hl, ho⟩ := shut_marks hK h
    refine ⟨.tup [.str m.1, .tup (pairsOf j)] :: ys, by rw [List.length_cons, List.length_cons, l], ⟨m, r', rfl, ⟨hm, _, hj.rf, rfl⟩, hl⟩, fun i x e => ?_⟩
    cases i with
    | zero =>
      cases e
      refine ⟨_, rfl, ?_⟩
      unfold shM
      rw [ix0, bnd_ret, ix1, bnd_ret, ← bnd_bnd, shut_pairs hK hj, bnd_ret]
    | succ i => exact ho i x e
theorem shut_fun {K N : List Str} (hK : K.length ≤ 8) {h : D} {s : Fm × Rp} (hs : RH K N h s) (hl : s.2.length ≤ 1000) : ∃ d : D, d_l_shut h = ret d ∧ RS K N d s := by
  obtain ⟨j, xs, ht, hx, rfl⟩ := hs
  have len := hx.len
  obtain ⟨ys, l, hy, ho⟩ := shut_marks hK hx
  unfold d_l_shut
  rw [ix1, bnd_ret, items_lst, bnd_ret]
  show ∃ d : D, bnd (mapP shM xs.reverse) _ = ret d ∧ _
  rw [mapP_at (ys := ys.reverse) (by rw [List.length_reverse]; omega) (by rw [List.length_reverse, List.length_reverse, l]) (rev_at l ho), bnd_ret, ix0, bnd_ret, ← bnd_bnd, shut_pairs hK ht, bnd_ret]
  exact ⟨_, rfl, _, ys, ht.rf, hy, rfl⟩
theorem Mk.gd {K N : List Str} (h : Kn K N) {x : D} (hx : Mk K N x) : Gd 3 x := by
  obtain ⟨s, hs, t, ht, rfl⟩ := hx
  refine .tup fun y hy => ?_
  rcases List.mem_cons.mp hy with rfl | hy
  · exact (Gd.str (k := 0) (word_ok (h.nw s hs))).up (by decide)
  · rw [List.mem_singleton.mp hy]; exact ht.gd
theorem RS.gd {K N : List Str} (h : Kn K N) {d : D} {s : Fm × Rp} (hs : RS K N d s) : Gd 5 d := by
  obtain ⟨t, xs, ht, hx, _, rfl⟩ := hs.stt
  refine .tup fun y hy => ?_
  rcases List.mem_cons.mp hy with rfl | hy
  · exact ht.gd.up (by decide)
  · rw [List.mem_singleton.mp hy]
    exact .tup fun x hm => Mk.gd h (hx x hm)
theorem found_ok {K N : List Str} (h : Kn K N) {d : D} {s : Fm × Rp} (hs : RS K N d s) : okD (.lst [.tup [.str tDone, d], .tup [.str tDone, d]]) = true := by
  have h1 : Gd 6 (.tup [.str tDone, d]) := .tup fun y hy => by
    rcases List.mem_cons.mp hy with rfl | hy
    · exact (Gd.str (k := 0) (by decide +kernel)).up (by decide)
    · rw [List.mem_singleton.mp hy]; exact hs.gd h
  have h2 : Gd 7 (.lst [.tup [.str tDone, d], .tup [.str tDone, d]]) := .lst fun y hy => by
    rcases List.mem_cons.mp hy with rfl | hy
    · exact h1
    · rw [List.mem_singleton.mp hy]; exact h1
  exact h2.ok (by decide)
theorem walk_len : ∀ {cs : List Cd} {s s' : Fm × Rp}, walk cs s = some s' → s'.2.length ≤ s.2.length + cs.length
  | [], s, s', h => by cases h; exact Nat.le_refl _
  | c :: cs, s, s', h => by
    have h : (aft c s).bind (walk cs) = some s' := h
    cases ha : aft c s with
    | none => rw [ha] at h; cases h
    | some s1 =>
      rw [ha] at h
      have h1 := aft_len ha
      have h2 := walk_len (cs := cs) h
      rw [List.length_cons]
      omega
theorem ixL0 (x : D) (xs : List D) : ixD (.lst (x :: xs)) (.int 0) = PL.ret x := ix_l (atI_nat (j := 0) rfl)
theorem ixL1 (a x : D) (xs : List D) : ixD (.lst (a :: x :: xs)) (.int 1) = PL.ret x := ix_l (atI_nat (j := 1) rfl)
theorem alike_ok {K N : List Str} (h : Kn K N) {house : D} {s : Fm × Rp} (hs : RS K N house s) (hl : s.2.length ≤ 100) {cs cs' : List Cd} (hc : ∀ c ∈ cs, CdOk K N c) (hc' : ∀ c ∈ cs', CdOk K N c) (l1 : cs.length ≤ 60) (l2 : cs'.length ≤ 60) (hw : walk cs' s = walk cs s) :
    d_l_alike house (.lst (cs.map cmdD)) (.lst (cs'.map cmdD)) = ret (.bl true) := by
  obtain ⟨o1, e1, q1⟩ := outcome_fun h hs hc (by omega) l1
  obtain ⟨o2, e2, q2⟩ := outcome_fun h hs hc' (by omega) l2
  obtain ⟨hh, e3, q3⟩ := opened_fun hs (by omega)
  obtain ⟨d, e4, q4⟩ := l_run_fun h q3 hc (by omega)
  unfold d_l_alike
  rw [e1, cl_ret, bnd_ret, e2, cl_ret, bnd_ret, bnd_ret, e3, cl_ret, bnd_ret, e4, cl_ret, bnd_ret]
  rw [hw] at q2
  cases hx : walk cs s with
  | none =>
    rw [hx] at q1 q2 q4
    obtain ⟨i1, rfl⟩ := q1
    obtain ⟨i2, rfl⟩ := q2
    have q4 : d = .non := q4
    subst q4
    rw [show isNone D.non = true from rfl, if_pos rfl, ixL0, bnd_ret, ix0, bnd_ret, eqB_str, beq_self_eq_true, bnd_ret, andD_t, ixL1, bnd_ret, ix0, bnd_ret, eqB_str, beq_self_eq_true, bnd_ret]
  | some s' =>
    rw [hx] at q1 q2 q4
    obtain ⟨d1, rfl, r1⟩ := q1
    obtain ⟨d2, rfl, r2⟩ := q2
    have q4 : RH K N d s' := q4
    have hl2 : s'.2.length ≤ 1000 := by
      have := walk_len hx
      omega
    obtain ⟨z, e5, r5⟩ := shut_fun h.kl q4 hl2
    rw [q4.not, if_neg (by decide), e5, cl_ret, bnd_ret, bnd_ret, r1.uniq r5, r2.uniq r5, eqB_same (found_ok h r5), bnd_ret]
end Q31

namespace Q31
open PySem PySem.Spec L2 PL
/-! ### the rules act alike -/
theorem appF_same (f : Fm) (k : Str) (x y : D) : appF (appF f (oneF k x)) (oneF k y) = appF f (oneF k y) := by
  funext s
  unfold appF oneF
  by_cases h : s = k
  · simp [h]
  · rw [if_neg h, if_neg h]
    exact filt_filt _
theorem appF_comm (f : Fm) {k l : Str} (h : k ≠ l) (x y : D) : appF (appF f (oneF k x)) (oneF l y) = appF (appF f (oneF l y)) (oneF k x) := by
  funext s
  unfold appF oneF
  by_cases h1 : s = k
  · have h2 : ¬ s = l := fun z => h (h1.symm.trans z)
    rw [if_pos h1, if_neg h2]
    simp only [Option.none_or, Option.some_or]
    exact filt_filt _
  · by_cases h2 : s = l
    · rw [if_neg h1, if_pos h2]
      simp only [Option.none_or, Option.some_or]
      exact (filt_filt _).symm
    · rw [if_neg h1, if_neg h2]
theorem walk_app : ∀ (l m : List Cd) (s : Fm × Rp), walk (l ++ m) s = (walk l s).bind (walk m)
  | [], m, s => rfl
  | c :: l, m, s => by
    show (aft c s).bind (walk (l ++ m)) = ((aft c s).bind (walk l)).bind (walk m)
    cases aft c s with
    | none => rfl
    | some s' => exact walk_app l m s'
theorem walk_mid {l r : List Cd} (h : ∀ s, walk r s = walk l s) (a b : List Cd) (s : Fm × Rp) : walk (a ++ r ++ b) s = walk (a ++ l ++ b) s := by
  rw [walk_app, walk_app, walk_app, walk_app]
  congr 1
  cases walk a s with
  | none => rfl
  | some s' => exact h s'
section
variable (a b : Str) (k l : Str) (x y : D) (s : Fm × Rp)
theorem cut_here (n : Str) (f : Fm) (r : Rp) : cut n ((n, f) :: r) = some (f, r) := if_pos rfl
theorem cut_off {n m : Str} (h : m ≠ n) (f : Fm) (r : Rp) : cut n ((m, f) :: r) = cut n r := if_neg h
theorem al1 : walk [] s = walk [.mark a, .keep a] s := by
  show some s = ((cut a ((a, s.1) :: s.2)).map fun z => (s.1, z.2)).bind (walk [])
  rw [cut_here]
  rfl
theorem al2 : walk [.mark a] s = walk [.mark a, .back a] s := by
  show some (s.1, (a, s.1) :: s.2) = ((cut a ((a, s.1) :: s.2)).map fun z => (z.1, (a, z.1) :: z.2)).bind (walk [])
  rw [cut_here]
  rfl
theorem al3 : walk [.wr k y] s = walk [.wr k x, .wr k y] s := by
  show some (appF s.1 (oneF k y), s.2) = some (appF (appF s.1 (oneF k x)) (oneF k y), s.2)
  rw [appF_same]
theorem al4 (h : k ≠ l) : walk [.wr l y, .wr k x] s = walk [.wr k x, .wr l y] s := by
  show some (appF (appF s.1 (oneF l y)) (oneF k x), s.2) = some (appF (appF s.1 (oneF k x)) (oneF l y), s.2)
  rw [appF_comm _ h]
theorem al5 : walk [.keep a, .wr k x] s = walk [.wr k x, .keep a] s := by
  show ((cut a s.2).map fun z => (s.1, z.2)).bind (walk [.wr k x]) = ((cut a s.2).map fun z => (appF s.1 (oneF k x), z.2)).bind (walk [])
  cases cut a s.2 <;> rfl
theorem al6 : walk [.back a] s = walk [.wr k x, .back a] s := by
  show ((cut a s.2).map fun z => (z.1, (a, z.1) :: z.2)).bind (walk []) = ((cut a s.2).map fun z => (z.1, (a, z.1) :: z.2)).bind (walk [])
  rfl
theorem al7 (h : b ≠ a) : walk [.keep a] s = walk [.mark b, .keep a] s := by
  show ((cut a s.2).map fun z => (s.1, z.2)).bind (walk []) = ((cut a ((b, s.1) :: s.2)).map fun z => (s.1, z.2)).bind (walk [])
  rw [cut_off h]
theorem al8 (h : b ≠ a) : walk [.back a] s = walk [.mark b, .back a] s := by
  show ((cut a s.2).map fun z => (z.1, (a, z.1) :: z.2)).bind (walk []) = ((cut a ((b, s.1) :: s.2)).map fun z => (z.1, (a, z.1) :: z.2)).bind (walk [])
  rw [cut_off h]
theorem al9 : walk [.keep a, .back b] s = walk [.back a, .keep a, .back b] s := by
  show ((cut a s.2).map fun z => (s.1, z.2)).bind (walk [.back b]) = ((cut a s.2).map fun z => (z.1, (a, z.1) :: z.2)).bind (walk [.keep a, .back b])
  cases cut a s.2 with
  | none => rfl
  | some z =>
    show ((cut b z.2).map fun w => (w.1, (b, w.1) :: w.2)).bind (walk []) = ((cut a ((a, z.1) :: z.2)).map fun w => (z.1, w.2)).bind (walk [.back b])
    rw [cut_here]
    rfl
theorem al10 : walk [.back a] s = walk [.back a, .keep a, .mark a] s := by
  show ((cut a s.2).map fun z => (z.1, (a, z.1) :: z.2)).bind (walk []) = ((cut a s.2).map fun z => (z.1, (a, z.1) :: z.2)).bind (walk [.keep a, .mark a])
  cases cut a s.2 with
  | none => rfl
  | some z =>
    show some (z.1, (a, z.1) :: z.2) = ((cut a ((a, z.1) :: z.2)).map fun w => (z.1, w.2)).bind (walk [.mark a])
    rw [cut_here]
    rfl
theorem al11 : walk [.wr k x, .mark a] s = walk [.wr k x, .mark a, .wr k x] s := by
  show some (appF s.1 (oneF k x), (a, appF s.1 (oneF k x)) :: s.2) = some (appF (appF s.1 (oneF k x)) (oneF k x), (a, appF s.1 (oneF k x)) :: s.2)
  rw [appF_same]
end
/-! ### the rules named -/
theorem wr_head (k : Str) (x : D) : ∃ c r, cmdD (.wr k x) = .tup (.str c :: .str k :: r) ∧ (wSet == c || wDel == c) = true := by
  cases x with
  | non => exact ⟨wDel, [], rfl, by rw [beq_self_eq_true]; exact Bool.or_true _⟩
  | _ => exact ⟨wSet, _, rfl, by rw [beq_self_eq_true]; rfl⟩
theorem wr_not {c : Str} (h : (wSet == c || wDel == c) = true) : (c == wBack) = false ∧ (c == wKeep) = false ∧ (c == wMark) = false := by
  rw [Bool.or_eq_true, beq_iff_eq, beq_iff_eq] at h
  rcases h with rfl | rfl
  · exact ⟨w_sb, w_sk, w_sm⟩
  · exact ⟨w_db, w_dk, w_dm⟩
theorem Cd.gd {K N : List Str} (h : Kn K N) {c : Cd} (hc : CdOk K N c) : Gd 1 (cmdD c) := by
  have S : ∀ s : Str, okD (.str s) = true → Gd 0 (.str s) := fun s h => Gd.str h
  have two : ∀ (w s : Str), okD (.str w) = true → okD (.str s) = true → Gd 1 (.tup [.str w, .str s]) := fun w s h1 h2 => .tup fun y hy => by
    simp only [List.mem_cons, List.not_mem_nil, or_false] at hy
    rcases hy with rfl | rfl
    · exact S _ h1
    · exact S _ h2
  cases c with
  | wr k x =>
    rcases cmdD_wr hc with ⟨rfl, e⟩ | ⟨hv, e⟩ <;> rw [e]
    · exact two _ _ (by decide +kernel) (word_ok (h.kw k hc.1))
    · rw [numB_int hv]
      refine .tup fun y hy => ?_
      simp only [List.mem_cons, List.not_mem_nil, or_false] at hy
      rcases hy with rfl | rfl | rfl
      · exact S _ (by decide +kernel)
      · exact S _ (word_ok (h.kw k hc.1))
      · exact Gd.int
  | mark n => exact two _ _ (by decide +kernel) (word_ok (h.nw n hc))
  | back n => exact two _ _ (by decide +kernel) (word_ok (h.nw n hc))
  | keep n => exact two _ _ (by decide +kernel) (word_ok (h.nw n hc))
theorem Cd.ok {K N : List Str} (h : Kn K N) {c : Cd} (hc : CdOk K N c) : okD (cmdD c) = true := (Cd.gd h hc).ok (by decide)
theorem cds_ok {K N : List Str} (h : Kn K N) {cs : List Cd} (hc : ∀ c ∈ cs, CdOk K N c) : okD (.tup (cs.map cmdD)) = true :=
  (Gd.tup (k := 1) fun y hy => by
    obtain ⟨c, hcm, rfl⟩ := List.mem_map.mp hy
    exact Cd.gd h (hc c hcm)).ok (by decide)
theorem from_two {f g right z : D} (e : d_rule_of_two (.tup [f, g]) right = ret z) : d_rule_from (.tup [f, g]) right = ret z := by
  unfold d_rule_from
  show bnd (bnd (ret (2 : Int)) _) _ = _
  rw [bnd_ret, bnd_ret, if_pos (by decide)]
  exact cl_eq e
theorem from_three {f g t right z : D} (e : d_rule_of_three (.tup [f, g, t]) right = ret z) : d_rule_from (.tup [f, g, t]) right = ret z := by
  unfold d_rule_from
  show bnd (bnd (ret (3 : Int)) _) _ = _
  rw [bnd_ret, bnd_ret, if_neg (by decide)]
  show bnd (ret (3 : Int)) _ = _
  rw [bnd_ret, if_pos (by decide)]
  exact cl_eq e
theorem from_one {f right : D} : d_rule_from (.tup [f]) right = ret .non := by
  unfold d_rule_from
  rfl
theorem from_nil {right : D} : d_rule_from (.tup []) right = ret .non := by
  unfold d_rule_from
  rfl
theorem in_bk (c : Str) : inFlat true (.str c) (.tup [.str wBack, .str wKeep]) = ret (.bl (!(wBack == c || wKeep == c))) := by
  show grd _ _ = _
  rw [grd_pos ⟨rfl, rfl⟩]
  simp [scEq]
theorem unp2_t (a b : D) : unp2 (.tup [a, b]) = ret (a, b) := rfl
theorem unp3_t (a b c : D) : unp3 (.tup [a, b, c]) = ret (a, b, c) := rfl
theorem is_wr (k : Str) (x : D) : d_is_write (cmdD (.wr k x)) = ret (.bl true) := by
  obtain ⟨c, r, e, h⟩ := wr_head k x
  rw [e, is_write_eq, h]
theorem not_wr {c : Str} (h : (wSet == c || wDel == c) = false) (r : List D) : d_is_write (.tup (.str c :: r)) = ret (.bl false) := by
  rw [is_write_eq, h]
section
variable {K N : List Str} (h : Kn K N) {a b k l : Str} {x y : D}
include h
theorem r1 : d_rule_of_two (.tup [cmdD (.mark a), cmdD (.keep a)]) (.tup []) = ret (.int 1) := by
  unfold d_rule_of_two
  rw [unp2_t, bnd_ret, show cmdD (.mark a) = .tup [.str wMark, .str a] from rfl, show cmdD (.keep a) = .tup [.str wKeep, .str a] from rfl]
  simp only [not_wr (show (wSet == wMark || wDel == wMark) = false by decide +kernel), cl_ret, bnd_ret, tru_bl, ix0, ix1, neB_str, eqB_str, in_bk, blB_bl, orB_ret, beq_self_eq_true, Bool.not_true, Bool.or_true, Bool.false_or, Bool.false_eq_true, if_false, if_true, okD_nil, eqB_same]
theorem r2 (ha : CdOk K N (.mark a)) : d_rule_of_two (.tup [cmdD (.mark a), cmdD (.back a)]) (.tup [cmdD (.mark a)]) = ret (.int 2) := by
  have ok : okD (.tup [cmdD (.mark a)]) = true := cds_ok h (cs := [.mark a]) fun c hc => by rw [List.mem_singleton.mp hc]; exact ha
  unfold d_rule_of_two
  rw [unp2_t, bnd_ret, show cmdD (.back a) = .tup [.str wBack, .str a] from rfl]
  have e0 : ixD (cmdD (.mark a)) (.int 0) = ret (.str wMark) := ix0 _ _
  have e1 : ixD (cmdD (.mark a)) (.int 1) = ret (.str a) := ix1 _ _ _
  have ew : d_is_write (cmdD (.mark a)) = ret (.bl false) := not_wr (show (wSet == wMark || wDel == wMark) = false by decide +kernel) _
  simp only [ew, e0, e1, cl_ret, bnd_ret, tru_bl, ix0, ix1, neB_str, eqB_str, in_bk, blB_bl, orB_ret, beq_self_eq_true, Bool.not_true, Bool.true_or, Bool.false_or, Bool.false_eq_true, if_false, if_true, w_bk]
  rw [eqB_same ok, bnd_ret, if_pos rfl]
theorem r7 (hb : b ≠ a) (ha : CdOk K N (.keep a)) : d_rule_of_two (.tup [cmdD (.mark b), cmdD (.keep a)]) (.tup [cmdD (.keep a)]) = ret (.int 7) := by
  have ok : okD (.tup [cmdD (.keep a)]) = true := cds_ok h (cs := [.keep a]) fun c hc => by rw [List.mem_singleton.mp hc]; exact ha
  unfold d_rule_of_two
  rw [unp2_t, bnd_ret, show cmdD (.mark b) = .tup [.str wMark, .str b] from rfl]
  have e0 : ixD (cmdD (.keep a)) (.int 0) = ret (.str wKeep) := ix0 _ _
  have e1 : ixD (cmdD (.keep a)) (.int 1) = ret (.str a) := ix1 _ _ _
  simp only [not_wr (show (wSet == wMark || wDel == wMark) = false by decide +kernel), e0, e1, cl_ret, bnd_ret, tru_bl, ix0, ix1, neB_str, eqB_str, in_bk, blB_bl, orB_ret, beq_self_eq_true, beq_false_of_ne hb, Bool.not_true, Bool.not_false, Bool.or_true, Bool.false_or, Bool.false_eq_true, if_false, if_true, w_kb]
  rw [eqB_same ok, bnd_ret, if_pos rfl]
  all_goals rfl
theorem r8 (hb : b ≠ a) (ha : CdOk K N (.back a)) : d_rule_of_two (.tup [cmdD (.mark b), cmdD (.back a)]) (.tup [cmdD (.back a)]) = ret (.int 8) := by
  have ok : okD (.tup [cmdD (.back a)]) = true := cds_ok h (cs := [.back a]) fun c hc => by rw [List.mem_singleton.mp hc]; exact ha
  unfold d_rule_of_two
  rw [unp2_t, bnd_ret, show cmdD (.mark b) = .tup [.str wMark, .str b] from rfl]
  have e0 : ixD (cmdD (.back a)) (.int 0) = ret (.str wBack) := ix0 _ _
  have e1 : ixD (cmdD (.back a)) (.int 1) = ret (.str a) := ix1 _ _ _
  simp only [not_wr (show (wSet == wMark || wDel == wMark) = false by decide +kernel), e0, e1, cl_ret, bnd_ret, tru_bl, ix0, ix1, neB_str, eqB_str, in_bk, blB_bl, orB_ret, beq_self_eq_true, beq_false_of_ne hb, Bool.not_true, Bool.not_false, Bool.true_or, Bool.false_or, Bool.false_eq_true, if_false, if_true]
  rw [eqB_same ok, bnd_ret, if_pos rfl]
  all_goals rfl
theorem r3 (e : k = l) (hp : CdOk K N (.wr l y)) : d_rule_of_two (.tup [cmdD (.wr k x), cmdD (.wr l y)]) (.tup [cmdD (.wr l y)]) = ret (.int 3) := by
  have ok : okD (.tup [cmdD (.wr l y)]) = true := cds_ok h (cs := [.wr l y]) fun c hc => by rw [List.mem_singleton.mp hc]; exact hp
  unfold d_rule_of_two
  rw [unp2_t, bnd_ret]
  show bnd (bnd (cl (d_is_write (cmdD (.wr k x)))) _) _ = _
  rw [is_wr, cl_ret, bnd_ret, tru_bl, bnd_ret, if_pos rfl]
  refine cl_eq ?_
  show d_rule_of_writes (cmdD (.wr k x)) (cmdD (.wr l y)) _ = _
  unfold d_rule_of_writes
  obtain ⟨c, r, ec, hc⟩ := wr_head k x
  obtain ⟨c', r', ec', hc'⟩ := wr_head l y
  obtain ⟨n1, n2, _⟩ := wr_not hc'
  have f0 : ixD (cmdD (.wr l y)) (.int 0) = ret (.str c') := by rw [ec']; exact ix0 _ _
  have f1 : ixD (cmdD (.wr l y)) (.int 1) = ret (.str l) := by rw [ec']; exact ix1 _ _ _
  have g1 : ixD (cmdD (.wr k x)) (.int 1) = ret (.str k) := by rw [ec]; exact ix1 _ _ _
  rw [f0, f1, g1, is_wr]
  simp only [cl_ret, bnd_ret, tru_bl, eqB_str, n1, n2, Bool.not_true, Bool.false_eq_true, if_false, e, beq_self_eq_true, if_true]
  rw [eqB_same ok, bnd_ret, if_pos rfl]
theorem r4 (e : k ≠ l) (ho : CdOk K N (.wr k x)) (hp : CdOk K N (.wr l y)) : d_rule_of_two (.tup [cmdD (.wr k x), cmdD (.wr l y)]) (.tup [cmdD (.wr l y), cmdD (.wr k x)]) = ret (.int 4) := by
  have ok : okD (.tup [cmdD (.wr l y), cmdD (.wr k x)]) = true := cds_ok h (cs := [.wr l y, .wr k x]) fun c hc => by
    simp only [List.mem_cons, List.not_mem_nil, or_false] at hc
    rcases hc with rfl | rfl
    · exact hp
    · exact ho
  unfold d_rule_of_two
  rw [unp2_t, bnd_ret]
  show bnd (bnd (cl (d_is_write (cmdD (.wr k x)))) _) _ = _
  rw [is_wr, cl_ret, bnd_ret, tru_bl, bnd_ret, if_pos rfl]
  refine cl_eq ?_
  show d_rule_of_writes (cmdD (.wr k x)) (cmdD (.wr l y)) _ = _
  unfold d_rule_of_writes
  obtain ⟨c, r, ec, hc⟩ := wr_head k x
  obtain ⟨c', r', ec', hc'⟩ := wr_head l y
  obtain ⟨n1, n2, _⟩ := wr_not hc'
  have f0 : ixD (cmdD (.wr l y)) (.int 0) = ret (.str c') := by rw [ec']; exact ix0 _ _
  have f1 : ixD (cmdD (.wr l y)) (.int 1) = ret (.str l) := by rw [ec']; exact ix1 _ _ _
  have g1 : ixD (cmdD (.wr k x)) (.int 1) = ret (.str k) := by rw [ec]; exact ix1 _ _ _
  rw [f0, f1, g1, is_wr]
  simp only [cl_ret, bnd_ret, tru_bl, eqB_str, n1, n2, Bool.not_true, Bool.false_eq_true, if_false, beq_false_of_ne e]
  rw [eqB_same ok, bnd_ret, if_pos rfl]
theorem r5 (ho : CdOk K N (.wr k x)) (ha : CdOk K N (.keep a)) : d_rule_of_two (.tup [cmdD (.wr k x), cmdD (.keep a)]) (.tup [cmdD (.keep a), cmdD (.wr k x)]) = ret (.int 5) := by
  have ok : okD (.tup [cmdD (.keep a), cmdD (.wr k x)]) = true := cds_ok h (cs := [.keep a, .wr k x]) fun c hc => by
    simp only [List.mem_cons, List.not_mem_nil, or_false] at hc
    rcases hc with rfl | rfl
    · exact ha
    · exact ho
  unfold d_rule_of_two
  rw [unp2_t, bnd_ret]
  show bnd (bnd (cl (d_is_write (cmdD (.wr k x)))) _) _ = _
  rw [is_wr, cl_ret, bnd_ret, tru_bl, bnd_ret, if_pos rfl]
  refine cl_eq ?_
  show d_rule_of_writes (cmdD (.wr k x)) (cmdD (.keep a)) _ = _
  unfold d_rule_of_writes
  have f0 : ixD (cmdD (.keep a)) (.int 0) = ret (.str wKeep) := ix0 _ _
  rw [f0]
  simp only [bnd_ret, eqB_str, w_kb, Bool.false_eq_true, if_false, beq_self_eq_true, if_true]
  rw [eqB_same ok, bnd_ret, if_pos rfl]
theorem r6 (ha : CdOk K N (.back a)) : d_rule_of_two (.tup [cmdD (.wr k x), cmdD (.back a)]) (.tup [cmdD (.back a)]) = ret (.int 6) := by
  have ok : okD (.tup [cmdD (.back a)]) = true := cds_ok h (cs := [.back a]) fun c hc => by rw [List.mem_singleton.mp hc]; exact ha
  unfold d_rule_of_two
  rw [unp2_t, bnd_ret]
  show bnd (bnd (cl (d_is_write (cmdD (.wr k x)))) _) _ = _
  rw [is_wr, cl_ret, bnd_ret, tru_bl, bnd_ret, if_pos rfl]
  refine cl_eq ?_
  show d_rule_of_writes (cmdD (.wr k x)) (cmdD (.back a)) _ = _
  unfold d_rule_of_writes
  have f0 : ixD (cmdD (.back a)) (.int 0) = ret (.str wBack) := ix0 _ _
  rw [f0]
  simp only [bnd_ret, eqB_str, beq_self_eq_true, if_true]
  rw [eqB_same ok, bnd_ret, if_pos rfl]
theorem r11b {right : D} : d_rule_of_two (.tup [cmdD (.wr k x), cmdD (.mark a)]) right = ret .non := by
  unfold d_rule_of_two
  rw [unp2_t, bnd_ret]
  show bnd (bnd (cl (d_is_write (cmdD (.wr k x)))) _) _ = _
  rw [is_wr, cl_ret, bnd_ret, tru_bl, bnd_ret, if_pos rfl]
  refine cl_eq ?_
  show d_rule_of_writes (cmdD (.wr k x)) (cmdD (.mark a)) _ = _
  unfold d_rule_of_writes
  rw [show cmdD (.mark a) = .tup [.str wMark, .str a] from rfl]
  simp only [ix0, bnd_ret, eqB_str, w_mb, w_mk, not_wr (show (wSet == wMark || wDel == wMark) = false by decide +kernel), cl_ret, tru_bl, Bool.false_eq_true, if_false, Bool.not_false, if_true]
theorem keep_first {g right : D} : d_rule_of_two (.tup [cmdD (.keep a), g]) right = ret .non := by
  unfold d_rule_of_two
  rw [unp2_t, bnd_ret, show cmdD (.keep a) = .tup [.str wKeep, .str a] from rfl]
  simp only [not_wr (show (wSet == wKeep || wDel == wKeep) = false by decide +kernel), cl_ret, bnd_ret, tru_bl, ix0, neB_str, Bool.false_eq_true, if_false, w_km, Bool.not_false]
  all_goals rfl
theorem r9 (ha : CdOk K N (.keep a)) (hb : CdOk K N (.back b)) : d_rule_of_three (.tup [cmdD (.back a), cmdD (.keep a), cmdD (.back b)]) (.tup [cmdD (.keep a), cmdD (.back b)]) = ret (.int 9) := by
  have ok : okD (.tup [cmdD (.keep a), cmdD (.back b)]) = true := cds_ok h (cs := [.keep a, .back b]) fun c hc => by
    simp only [List.mem_cons, List.not_mem_nil, or_false] at hc
    rcases hc with rfl | rfl
    · exact ha
    · exact hb
  unfold d_rule_of_three
  rw [unp3_t, bnd_ret, show cmdD (.back a) = .tup [.str wBack, .str a] from rfl]
  have f0 : ixD (cmdD (.back b)) (.int 0) = ret (.str wBack) := ix0 _ _
  simp only [not_wr (show (wSet == wBack || wDel == wBack) = false by decide +kernel), cl_ret, bnd_ret, tru_bl, ix0, ix1, neB_str, Bool.false_eq_true, if_false, beq_self_eq_true, Bool.not_true, f0, eqB_str, if_true]
  have ek : neB (cmdD (.keep a)) (.tup [.str (Str.ofString "keep"), .str a]) = ret false := neB_same (Cd.ok h ha)
  rw [ek, orB_ret, bnd_ret, if_neg (by decide), eqB_same ok, bnd_ret, if_pos rfl]
theorem r10 (ha : CdOk K N (.back a)) (hk : CdOk K N (.keep a)) (hm : CdOk K N (.mark a)) : d_rule_of_three (.tup [cmdD (.back a), cmdD (.keep a), cmdD (.mark a)]) (.tup [cmdD (.back a)]) = ret (.int 10) := by
  have ok : okD (.tup [cmdD (.back a)]) = true := cds_ok h (cs := [.back a]) fun c hc => by rw [List.mem_singleton.mp hc]; exact ha
  unfold d_rule_of_three
  rw [unp3_t, bnd_ret]
  have e0 : ixD (cmdD (.back a)) (.int 0) = ret (.str wBack) := ix0 _ _
  have e1 : ixD (cmdD (.back a)) (.int 1) = ret (.str a) := ix1 _ _ _
  have f0 : ixD (cmdD (.mark a)) (.int 0) = ret (.str wMark) := ix0 _ _
  have ew : d_is_write (cmdD (.back a)) = ret (.bl false) := not_wr (show (wSet == wBack || wDel == wBack) = false by decide +kernel) _
  simp only [ew, e0, e1, f0, cl_ret, bnd_ret, tru_bl, neB_str, Bool.false_eq_true, if_false, beq_self_eq_true, Bool.not_true, eqB_str, w_mb]
  have ek : neB (cmdD (.keep a)) (.tup [.str (Str.ofString "keep"), .str a]) = ret false := neB_same (Cd.ok h hk)
  have em : eqB (cmdD (.mark a)) (.tup [.str (Str.ofString "mark"), .str a]) = ret true := eqB_same (Cd.ok h hm)
  rw [ek, orB_ret, bnd_ret, if_neg (by decide), em, eqB_same ok, andB_ret, bnd_ret]
  all_goals rfl
theorem r11 (ho : CdOk K N (.wr k x)) (hm : CdOk K N (.mark a)) : d_rule_of_three (.tup [cmdD (.wr k x), cmdD (.mark a), cmdD (.wr k x)]) (.tup [cmdD (.wr k x), cmdD (.mark a)]) = ret (.int 11) := by
  have ok : okD (.tup [cmdD (.wr k x), cmdD (.mark a)]) = true := cds_ok h (cs := [.wr k x, .mark a]) fun c hc => by
    simp only [List.mem_cons, List.not_mem_nil, or_false] at hc
    rcases hc with rfl | rfl
    · exact ho
    · exact hm
  unfold d_rule_of_three
  rw [unp3_t, bnd_ret]
  show bnd (bnd (cl (d_is_write (cmdD (.wr k x)))) _) _ = _
  rw [is_wr, cl_ret, bnd_ret, tru_bl, bnd_ret, if_pos rfl]
  have f0 : ixD (cmdD (.mark a)) (.int 0) = ret (.str wMark) := ix0 _ _
  rw [f0, bnd_ret, eqB_str, beq_self_eq_true, eqB_same (Cd.ok h ho), eqB_same ok, andB_ret, andB_ret, bnd_ret]
  all_goals rfl
end
theorem rule_of_one {l r : D} {n : Int} (h1 : d_rule_from l r = ret (.int n)) (h2 : d_rule_from r l = ret .non) : d_rule_of l r = ret (.int n) ∧ d_rule_of r l = ret (.int n) := by
  constructor
  · unfold d_rule_of
    rw [h1, cl_ret, bnd_ret, h2, cl_ret, bnd_ret, bnd_ret, selP_ret (p := fun x => !isNone x) (g := fun x => x) (Nat.le_of_ble_eq_true rfl) (fun _ _ => rfl) (fun _ _ _ => rfl), bnd_ret]
    rfl
  · unfold d_rule_of
    rw [h1, h2, cl_ret, bnd_ret, cl_ret, bnd_ret, bnd_ret, selP_ret (p := fun x => !isNone x) (g := fun x => x) (Nat.le_of_ble_eq_true rfl) (fun _ _ => rfl) (fun _ _ _ => rfl), bnd_ret]
    rfl
theorem rule_of_two_ {l r : D} {n : Int} (h1 : d_rule_from l r = ret (.int n)) (h2 : d_rule_from r l = ret (.int n)) : d_rule_of l r = ret (.int n) := by
  unfold d_rule_of
  rw [h1, cl_ret, bnd_ret, h2, cl_ret, bnd_ret, bnd_ret, selP_ret (p := fun x => !isNone x) (g := fun x => x) (Nat.le_of_ble_eq_true rfl) (fun _ _ => rfl) (fun _ _ _ => rfl), bnd_ret]
  show PL.ret (D.int (min n n)) = _
  rw [Int.min_self]
end Q31

namespace Q31
open PySem PySem.Spec L2 PL
/-! ### the sides of a rule -/
def leftL (a b one other : D) : List D := [(.lst [(.tup [(.str (Str.ofString "mark")), a]), (.tup [(.str (Str.ofString "keep")), a])]), (.lst [(.tup [(.str (Str.ofString "mark")), a]), (.tup [(.str (Str.ofString "back")), a])]), (.lst [one, other]), (.lst [one, other]), (.lst [one, (.tup [(.str (Str.ofString "keep")), a])]), (.lst [one, (.tup [(.str (Str.ofString "back")), a])]), (.lst [(.tup [(.str (Str.ofString "mark")), b]), (.tup [(.str (Str.ofString "keep")), a])]), (.lst [(.tup [(.str (Str.ofString "mark")), b]), (.tup [(.str (Str.ofString "back")), a])]), (.lst [(.tup [(.str (Str.ofString "back")), a]), (.tup [(.str (Str.ofString "keep")), a]), (.tup [(.str (Str.ofString "back")), b])]), (.lst [(.tup [(.str (Str.ofString "back")), a]), (.tup [(.str (Str.ofString "keep")), a]), (.tup [(.str (Str.ofString "mark")), a])]), (.lst [one, (.tup [(.str (Str.ofString "mark")), a]), one])]
def rightL (a b one other : D) : List D := [(.lst []), (.lst [(.tup [(.str (Str.ofString "mark")), a])]), (.lst [other]), (.lst [other, one]), (.lst [(.tup [(.str (Str.ofString "keep")), a]), one]), (.lst [(.tup [(.str (Str.ofString "back")), a])]), (.lst [(.tup [(.str (Str.ofString "keep")), a])]), (.lst [(.tup [(.str (Str.ofString "back")), a])]), (.lst [(.tup [(.str (Str.ofString "keep")), a]), (.tup [(.str (Str.ofString "back")), b])]), (.lst [(.tup [(.str (Str.ofString "back")), a])]), (.lst [one, (.tup [(.str (Str.ofString "mark")), a])])]
theorem in78 (i : Int) : inFlat false (.int i) (.tup [.int 7, .int 8]) = ret (.bl (decide (i = 7) || decide (i = 8))) := by
  show grd _ _ = _
  rw [grd_pos ⟨rfl, rfl⟩]
  simp only [List.any_cons, List.any_nil, Bool.or_false, scEq]
  rw [show ((7 : Int) == i) = decide (i = 7) from by rw [Bool.beq_comm]; rfl, show ((8 : Int) == i) = decide (i = 8) from by rw [Bool.beq_comm]; rfl]
  rfl
def badB (n : Int) (a b k l : Str) : Bool := ((decide (n = 7) || decide (n = 8)) && (a == b)) || ((decide (n = 3) && !(k == l)) || (decide (n = 4) && (k == l)))
theorem wr_key (k : Str) (x : D) : ixD (cmdD (.wr k x)) (.int 1) = ret (.str k) := by
  obtain ⟨c, r, e, _⟩ := wr_head k x
  rw [e]
  exact ix1 _ _ _
section
variable {n : Int} {a b k l : Str} {x y : D}
theorem sides_test {y0 : D} : (orB (andB (bnd (inFlat false (.int n) (.tup [(.int 7), (.int 8)])) fun k => blB k) (eqB (.str a) (.str b))) (orB (andB (ret (decide (n = 3))) (bnd (ixD (cmdD (.wr k x)) (.int 1)) fun y => bnd (ixD (cmdD (.wr l y0)) (.int 1)) fun y1 => neB y y1)) (andB (ret (decide (n = 4))) (bnd (ixD (cmdD (.wr k x)) (.int 1)) fun y2 => bnd (ixD (cmdD (.wr l y0)) (.int 1)) fun y3 => eqB y2 y3)))) = ret (badB n a b k l) := by
  simp only [in78, bnd_ret, blB_bl, eqB_str, neB_str, wr_key, andB_ret, orB_ret]
  rfl
theorem sides_none (h : badB n a b k l = true) : d_l_sides n (.str a) (.str b) (cmdD (.wr k x)) (cmdD (.wr l y)) = ret .non := by
  unfold d_l_sides
  rw [sides_test, bnd_ret, h, if_pos rfl]
theorem sides_at {i : Nat} {ls rs : List D} (hn : n = (i : Int) + 1) (h : badB n a b k l = false) (hl : (leftL (.str a) (.str b) (cmdD (.wr k x)) (cmdD (.wr l y)))[i]? = some (.lst ls)) (hr : (rightL (.str a) (.str b) (cmdD (.wr k x)) (cmdD (.wr l y)))[i]? = some (.lst rs)) :
    d_l_sides n (.str a) (.str b) (cmdD (.wr k x)) (cmdD (.wr l y)) = ret (.tup [.tup ls, .tup rs]) := by
  unfold d_l_sides
  rw [sides_test, bnd_ret, h, if_neg (by decide), addL_ok (Nat.le_of_ble_eq_true rfl), bnd_ret, addL_ok (Nat.le_of_ble_eq_true rfl), bnd_ret]
  show bnd (ixD (.lst (leftL (.str a) (.str b) (cmdD (.wr k x)) (cmdD (.wr l y)))) (.int (n - 1))) (fun y4 => bnd (tupD y4) fun t => bnd (ixD (.lst (rightL (.str a) (.str b) (cmdD (.wr k x)) (cmdD (.wr l y)))) (.int (n - 1))) fun y5 => bnd (tupD y5) fun t1 => ret (D.tup [t, t1])) = _
  rw [show n - 1 = (i : Int) by omega, ix_l (atI_nat hl), bnd_ret, ix_l (atI_nat hr)]
  rfl
end
structure Good (K N : List Str) (n : Int) (l r : List Cd) : Prop where
  cl : ∀ c ∈ l, CdOk K N c
  cr : ∀ c ∈ r, CdOk K N c
  ll : l.length ≤ 3
  lr : r.length ≤ 3
  wk : ∀ s, walk r s = walk l s
  r1 : d_rule_of (.tup (l.map cmdD)) (.tup (r.map cmdD)) = ret (.int n)
  r2 : d_rule_of (.tup (r.map cmdD)) (.tup (l.map cmdD)) = ret (.int n)
theorem sides_good {K N : List Str} (h : Kn K N) {a b k l : Str} {x y : D} (ha : a ∈ N) (hb : b ∈ N) (ho : CdOk K N (.wr k x)) (hp : CdOk K N (.wr l y)) {n : Int} (n0 : 1 ≤ n) (n1 : n ≤ 11) (hbad : badB n a b k l = false) :
    ∃ ls rs : List Cd, d_l_sides n (.str a) (.str b) (cmdD (.wr k x)) (cmdD (.wr l y)) = ret (.tup [.tup (ls.map cmdD), .tup (rs.map cmdD)]) ∧ Good K N n ls rs := by
  have all : ∀ {cs : List Cd}, (∀ c ∈ cs, c = .mark a ∨ c = .keep a ∨ c = .back a ∨ c = .mark b ∨ c = .back b ∨ c = .wr k x ∨ c = .wr l y) → ∀ c ∈ cs, CdOk K N c := fun q c hc => by
    rcases q c hc with rfl | rfl | rfl | rfl | rfl | rfl | rfl <;> assumption
  have mem : ∀ {cs : List Cd}, (cs.all fun c => true) = true → True := fun _ => trivial
  have mk : ∀ (i : Nat) (ls rs : List Cd), n = (i : Int) + 1 → (leftL (.str a) (.str b) (cmdD (.wr k x)) (cmdD (.wr l y)))[i]? = some (.lst (ls.map cmdD)) → (rightL (.str a) (.str b) (cmdD (.wr k x)) (cmdD (.wr l y)))[i]? = some (.lst (rs.map cmdD)) → Good K N n ls rs →
      ∃ ls rs : List Cd, d_l_sides n (.str a) (.str b) (cmdD (.wr k x)) (cmdD (.wr l y)) = ret (.tup [.tup (ls.map cmdD), .tup (rs.map cmdD)]) ∧ Good K N n ls rs := fun i ls rs e h1 h2 g => ⟨ls, rs, sides_at e hbad h1 h2, g⟩
  have hc : n = 1 ∨ n = 2 ∨ n = 3 ∨ n = 4 ∨ n = 5 ∨ n = 6 ∨ n = 7 ∨ n = 8 ∨ n = 9 ∨ n = 10 ∨ n = 11 := by omega
  have g1 : ∀ {ls rs : List Cd}, (∀ c ∈ ls, c = .mark a ∨ c = .keep a ∨ c = .back a ∨ c = .mark b ∨ c = .back b ∨ c = .wr k x ∨ c = .wr l y) → (∀ c ∈ rs, c = .mark a ∨ c = .keep a ∨ c = .back a ∨ c = .mark b ∨ c = .back b ∨ c = .wr k x ∨ c = .wr l y) → ls.length ≤ 3 → rs.length ≤ 3 → (∀ s, walk rs s = walk ls s) →
      (d_rule_of (.tup (ls.map cmdD)) (.tup (rs.map cmdD)) = ret (.int n) ∧ d_rule_of (.tup (rs.map cmdD)) (.tup (ls.map cmdD)) = ret (.int n)) → Good K N n ls rs := fun h1 h2 h3 h4 h5 h6 => ⟨all h1, all h2, h3, h4, h5, h6.1, h6.2⟩
  rcases hc with rfl | rfl | rfl | rfl | rfl | rfl | rfl | rfl | rfl | rfl | rfl
  · exact mk 0 [.mark a, .keep a] [] rfl rfl rfl (g1 (by simp) (by simp) (Nat.le_of_ble_eq_true rfl) (Nat.le_of_ble_eq_true rfl) (fun s => al1 a s) (rule_of_one (from_two (r1 h)) from_nil))
  · exact mk 1 [.mark a, .back a] [.mark a] rfl rfl rfl (g1 (by simp) (by simp) (Nat.le_of_ble_eq_true rfl) (Nat.le_of_ble_eq_true rfl) (fun s => al2 a s) (rule_of_one (from_two (r2 h ha)) from_one))
  · have e : k = l := by simpa [badB] using hbad
    refine mk 2 [.wr k x, .wr l y] [.wr l y] rfl rfl rfl (g1 (by simp) (by simp) (Nat.le_of_ble_eq_true rfl) (Nat.le_of_ble_eq_true rfl) (fun s => ?_) (rule_of_one (from_two (r3 h e hp)) from_one))
    subst e
    exact al3 k x y s
  · have e : k ≠ l := by simpa [badB] using hbad
    refine mk 3 [.wr k x, .wr l y] [.wr l y, .wr k x] rfl rfl rfl (g1 (by simp) (by simp) (Nat.le_of_ble_eq_true rfl) (Nat.le_of_ble_eq_true rfl) (fun s => al4 k l x y s e) ?_)
    have f1 := from_two (r4 h e ho hp)
    have f2 := from_two (r4 h (Ne.symm e) hp ho)
    exact ⟨rule_of_two_ f1 f2, rule_of_two_ f2 f1⟩
  · exact mk 4 [.wr k x, .keep a] [.keep a, .wr k x] rfl rfl rfl (g1 (by simp) (by simp) (Nat.le_of_ble_eq_true rfl) (Nat.le_of_ble_eq_true rfl) (fun s => al5 a k x s) (rule_of_one (from_two (r5 h ho ha)) (from_two (keep_first h))))
  · exact mk 5 [.wr k x, .back a] [.back a] rfl rfl rfl (g1 (by simp) (by simp) (Nat.le_of_ble_eq_true rfl) (Nat.le_of_ble_eq_true rfl) (fun s => al6 a k x s) (rule_of_one (from_two (r6 h ha)) from_one))
  · have e : b ≠ a := fun z => by rw [z] at hbad; simp [badB] at hbad
    exact mk 6 [.mark b, .keep a] [.keep a] rfl rfl rfl (g1 (by simp) (by simp) (Nat.le_of_ble_eq_true rfl) (Nat.le_of_ble_eq_true rfl) (fun s => al7 a b s e) (rule_of_one (from_two (r7 h e ha)) from_one))
  · have e : b ≠ a := fun z => by rw [z] at hbad; simp [badB] at hbad
    exact mk 7 [.mark b, .back a] [.back a] rfl rfl rfl (g1 (by simp) (by simp) (Nat.le_of_ble_eq_true rfl) (Nat.le_of_ble_eq_true rfl) (fun s => al8 a b s e) (rule_of_one (from_two (r8 h e ha)) from_one))
  · exact mk 8 [.back a, .keep a, .back b] [.keep a, .back b] rfl rfl rfl (g1 (by simp) (by simp) (Nat.le_of_ble_eq_true rfl) (Nat.le_of_ble_eq_true rfl) (fun s => al9 a b s) (rule_of_one (from_three (r9 h ha hb)) (from_two (keep_first h))))
  · exact mk 9 [.back a, .keep a, .mark a] [.back a] rfl rfl rfl (g1 (by simp) (by simp) (Nat.le_of_ble_eq_true rfl) (Nat.le_of_ble_eq_true rfl) (fun s => al10 a s) (rule_of_one (from_three (r10 h ha ha ha)) from_one))
  · exact mk 10 [.wr k x, .mark a, .wr k x] [.wr k x, .mark a] rfl rfl rfl (g1 (by simp) (by simp) (Nat.le_of_ble_eq_true rfl) (Nat.le_of_ble_eq_true rfl) (fun s => al11 a k x s) (rule_of_one (from_three (r11 h ho ha)) (from_two (r11b h))))
end Q31

namespace Q31
open PySem PySem.Spec L2 PL
/-! ### the law -/
theorem write_gen {K N : List Str} (h : Kn K N) : Gen (d_l_write (.lst (K.map .str))) 4 (fun d => ∃ k x, CdOk K N (.wr k x) ∧ d = cmdD (.wr k x)) := by
  unfold d_l_write
  refine (Gen.bind (c := 1) (d := 3) (pickS_gen h.k0 h.kl) fun y ⟨k, hk, e⟩ => ?_).up (by decide)
  subst e
  refine (Gen.bind (c := 2) (d := 1) value_gen fun x hx => ?_).up (by decide)
  refine Gen.dr (c := 0) (by decide) (by decide) fun r r0 r1 => ?_
  refine Gen.pickL0 (by split <;> omega) (by simp only [List.length_cons, List.length_nil]; split <;> omega) fun z hz => ?_
  simp only [List.mem_cons, List.not_mem_nil, or_false] at hz
  rcases hz with rfl | rfl
  · refine ⟨k, x, ⟨hk, .inr hx⟩, ?_⟩
    rw [numB_int hx]
    rfl
  · exact ⟨k, .non, ⟨hk, .inl rfl⟩, rfl⟩
theorem cds_of {K N : List Str} : ∀ {xs : List D}, (∀ x ∈ xs, Cm K N x) → ∃ cs : List Cd, xs = cs.map cmdD ∧ ∀ c ∈ cs, CdOk K N c
  | [], _ => ⟨[], rfl, fun _ h => nomatch h⟩
  | x :: xs, h => by
    obtain ⟨c, hc, e⟩ := (h x List.mem_cons_self).cd
    obtain ⟨cs, e2, h2⟩ := cds_of fun y hy => h y (List.mem_cons_of_mem _ hy)
    exact ⟨c :: cs, by rw [e, e2]; rfl, fun d hd => (List.mem_cons.mp hd).elim (fun z => z ▸ hc) (h2 d)⟩
def Scr (K N : List Str) (d : D) : Prop := ∃ cs : List Cd, d = .lst (cs.map cmdD) ∧ cs.length ≤ 6 ∧ ∀ c ∈ cs, CdOk K N c
theorem scr_gen {K N : List Str} (h : Kn K N) : Gen (d_l_commands (.lst (N.map .str)) (.lst (K.map .str)) 6) 30 (Scr K N) :=
  (commands_gen h).to fun d ⟨xs, e, hl, hx⟩ => by
    obtain ⟨cs, e2, hc⟩ := cds_of hx
    subst e2
    rw [List.length_map] at hl
    exact ⟨cs, e, hl, hc⟩
theorem scr_nil {K N : List Str} : Scr K N (.lst []) := ⟨[], rfl, Nat.zero_le _, fun _ h => nomatch h⟩
theorem turn_ok {K N : List Str} (h : Kn K N) {house : D} {s : Fm × Rp} (hs : RS K N house s) (hl : s.2.length ≤ 100) {n : Int} {ls rs : List Cd} (g : Good K N n ls rs) {st re : D} (h1 : Scr K N st) (h2 : Scr K N re) {γ : Type} {z : W (Step Unit γ)} {o : Step Unit γ} :
    (bnd (bnd (ixD (.tup [.tup (ls.map cmdD), .tup (rs.map cmdD)]) (.int 0)) fun y17 => bnd (items y17) fun xs => bnd (addD st (.lst xs)) fun c => addD c re) fun mine =>
    bnd (bnd (ixD (.tup [.tup (ls.map cmdD), .tup (rs.map cmdD)]) (.int 1)) fun y18 => bnd (items y18) fun xs1 => bnd (addD st (.lst xs1)) fun c2 => addD c2 re) fun yours =>
    bnd (bnd (cl (d_l_alike house mine yours)) fun y19 => bnd (tru y19) fun k3 => ret (!k3)) fun kk => if kk = true then ret o else z) = z := by
  obtain ⟨c1, rfl, l1, k1⟩ := h1
  obtain ⟨c2, rfl, l2, k2⟩ := h2
  have add : ∀ m : List Cd, m.length ≤ 3 → (bnd (addD (.lst (c1.map cmdD)) (.lst (m.map cmdD))) fun c => addD c (.lst (c2.map cmdD))) = ret (.lst ((c1 ++ m ++ c2).map cmdD)) := fun m hm => by
    rw [lst_add _ _ (by rw [List.length_map, List.length_map]; omega), bnd_ret, ← List.map_append, lst_add _ _ (by rw [List.length_map, List.length_map, List.length_append]; omega), ← List.map_append]
  have okA : ∀ m : List Cd, (∀ c ∈ m, CdOk K N c) → ∀ c ∈ c1 ++ m ++ c2, CdOk K N c := fun m hm c hc => by
    rcases List.mem_append.mp hc with hc | hc
    · exact (List.mem_append.mp hc).elim (k1 c) (hm c)
    · exact k2 c hc
  rw [ix0, bnd_ret, items_tup, bnd_ret, add ls g.ll, bnd_ret, ix1, bnd_ret, items_tup, bnd_ret, add rs g.lr, bnd_ret]
  have := g.ll; have := g.lr
  rw [alike_ok h hs hl (okA ls g.cl) (okA rs g.cr) (by rw [List.length_append, List.length_append]; omega) (by rw [List.length_append, List.length_append]; omega) (walk_mid g.wk c1 c2 s), cl_ret, bnd_ret, tru_bl, bnd_ret, bnd_ret]
  rfl
theorem law_gen : Gen d_law 10000 (fun d => d = .bl true) := by
  unfold d_law
  rw [rngK_eq, rngI_ret (by decide), bnd_ret]
  refine (Gen.forS (c := 600) (d := 0) 8 (fun _ => True) (by rw [rngZ_len]; decide) trivial (fun turn _ j _ => ?_) fun j _ => ?_).up (by decide)
  rotate_left
  · exact Gen.ret rfl
  refine (Gen.bind (c := 30) (d := 570) words_gen fun words ⟨N, eN, lN, nN, wN⟩ => ?_).up (by decide)
  refine (Gen.bind (c := 30) (d := 540) words_gen fun keys ⟨K, eK, lK, nK, wK⟩ => ?_).up (by decide)
  subst eN eK
  have h : Kn K N := ⟨wK, wN, nK, by omega, by omega, by omega, by omega⟩
  refine (Gen.bind (c := 400) (d := 140) (state_gen h) fun house hst => ?_).up (by decide)
  obtain ⟨s, hs, hl⟩ := hst.rs
  refine (Gen.bind (c := 1) (d := 139) (R := fun n : Int => 1 ≤ n ∧ n ≤ 11) (Gen.dr (c := 0) (by decide) (by decide) fun r r0 r1 => Gen.ret ⟨by omega, by omega⟩) fun number ⟨n0, n1⟩ => ?_).up (by decide)
  refine (Gen.bind (c := 2) (d := 137) (R := fun p : D × D => ∃ a ∈ N, ∃ b ∈ N, p = (.str a, .str b)) ?_ fun p ⟨a, ha, b, hb, ep⟩ => ?_).up (by decide)
  · refine (Gen.bind (c := 1) (d := 1) (pickS_gen h.n0 h.nl) fun y ⟨a, ha, e⟩ => ?_).up (by decide)
    refine (Gen.bind (c := 1) (d := 0) (pickS_gen h.n0 h.nl) fun y' ⟨b, hb, e'⟩ => ?_).up (by decide)
    subst e e'
    exact Gen.ret ⟨a, ha, b, hb, rfl⟩
  refine (Gen.bind (c := 8) (d := 129) (R := fun p : D × D => ∃ k x l y, CdOk K N (.wr k x) ∧ CdOk K N (.wr l y) ∧ p = (cmdD (.wr k x), cmdD (.wr l y))) ?_ fun p1 ⟨k, x, l, y, ho, hp, ep1⟩ => ?_).up (by decide)
  · refine (Gen.bind (c := 4) (d := 4) (write_gen h) fun y ⟨k, x, ho, e⟩ => ?_).up (by decide)
    refine (Gen.bind (c := 4) (d := 0) (write_gen h) fun y' ⟨l, z, hp, e'⟩ => ?_).up (by decide)
    subst e e'
    exact Gen.ret ⟨k, x, l, z, ho, hp, rfl⟩
  subst ep ep1
  -- the rule
  have hj : ∃ (n : Int) (ls rs : List Cd), Good K N n ls rs ∧ ∀ f : Int × D → W (Step Unit D), (bnd (cl (d_l_sides number (.str a) (.str b) (cmdD (.wr k x)) (cmdD (.wr l y)))) fun sides =>
      bnd (ret (isNone sides)) fun kk => bnd (if kk = true then
      bnd (cl (d_l_sides 9 (.str a) (.str b) (cmdD (.wr k x)) (cmdD (.wr l y)))) fun sides1 =>
      ret (9, sides1)
      else
      ret (number, sides)) f) = f (n, .tup [.tup (ls.map cmdD), .tup (rs.map cmdD)]) := by
    cases hbad : badB number a b k l with
    | true =>
      obtain ⟨ls, rs, e, g⟩ := sides_good h ha hb ho hp (n := 9) (by decide) (by decide) (show badB 9 a b k l = false by simp [badB])
      refine ⟨9, ls, rs, g, fun f => ?_⟩
      rw [sides_none hbad, cl_ret, bnd_ret, bnd_ret, show isNone D.non = true from rfl, if_pos rfl, e, cl_ret, bnd_ret, bnd_ret]
    | false =>
      obtain ⟨ls, rs, e, g⟩ := sides_good h ha hb ho hp n0 n1 hbad
      refine ⟨number, ls, rs, g, fun f => ?_⟩
      rw [e, cl_ret, bnd_ret, bnd_ret, show isNone (.tup [.tup (ls.map cmdD), .tup (rs.map cmdD)]) = false from rfl, if_neg (by decide), bnd_ret]
  obtain ⟨n, ls, rs, g, ej⟩ := hj
  refine Gen.eqm (ej _) ?_
  refine (Gen.bind (c := 30) (d := 90) (scr_gen h) fun head hh => ?_).up (by decide)
  refine (Gen.bind (c := 30) (d := 30) (scr_gen h) fun tail ht => ?_).up (by decide)
  simp only [ix0, ix1, bnd_ret, g.r1, g.r2, cl_ret]
  rw [neB_same (show okD (.int n) = true by rfl), orB_ret, bnd_ret, if_neg (by decide)]
  refine (Gen.forS (c := 0) (d := 0) 2 (fun _ => True) (Nat.le_refl _) trivial (fun re hre j2 _ => ?_) fun j3 _ => Gen.ret trivial).up (Nat.le_of_ble_eq_true rfl)
  have hre' : Scr K N re := by
    simp only [List.mem_cons, List.not_mem_nil, or_false] at hre
    rcases hre with rfl | rfl
    · exact scr_nil
    · exact ht
  refine (Gen.forS (c := 0) (d := 0) 2 (fun _ => True) (Nat.le_refl _) trivial (fun st hst2 j2 _ => ?_) fun j3 _ => Gen.ret trivial).up (Nat.le_of_ble_eq_true rfl)
  have hst' : Scr K N st := by
    simp only [List.mem_cons, List.not_mem_nil, or_false] at hst2
    rcases hst2 with rfl | rfl
    · exact scr_nil
    · exact hh
  refine Gen.eqm (turn_ok h hs (by omega) g hst' hre') (Gen.ret trivial)
theorem holds : d_law n0 (fun d _ => d = .bl true) (fun _ _ => False) := law_gen n0 _ _ (by decide) fun a k q _ _ => q
end Q31

namespace Q31
open PySem PySem.Spec L2 PL
section
variable {w : World} {K : PySem.W.Frag} {h : Heap} {mg : Str → Option Value} (X : K.In h) (G : h.Ns mainGlobals mg)
include X G
set_option maxHeartbeats 0 in
theorem fin {P : Program} {fa : Addr} (holds : d_law n0 (fun d _ => d = .bl true) (fun _ _ => False)) (hfa : mg "law" = some (.ref fa)) (z_abs : PySem.W.nsIn K mainGlobals "abs" = some none)
  (z_all : PySem.W.nsIn K mainGlobals "all" = some none)
  (z_bool : PySem.W.nsIn K mainGlobals "bool" = some none)
  (z_dict : PySem.W.nsIn K mainGlobals "dict" = some none)
  (z_enumerate : PySem.W.nsIn K mainGlobals "enumerate" = some none)
  (z_int : PySem.W.nsIn K mainGlobals "int" = some none)
  (z_isinstance : PySem.W.nsIn K mainGlobals "isinstance" = some none)
  (z_len : PySem.W.nsIn K mainGlobals "len" = some none)
  (z_list : PySem.W.nsIn K mainGlobals "list" = some none)
  (z_min : PySem.W.nsIn K mainGlobals "min" = some none)
  (z_range : PySem.W.nsIn K mainGlobals "range" = some none)
  (z_sorted : PySem.W.nsIn K mainGlobals "sorted" = some none)
  (z_str : PySem.W.nsIn K mainGlobals "str" = some none)
  (z_tuple : PySem.W.nsIn K mainGlobals "tuple" = some none)
  {t_BACK : Tok} (c_BACK : PySem.W.nsIn K mainGlobals "BACK" = some (some (.str "back" t_BACK)))
  {t_DEL : Tok} (c_DEL : PySem.W.nsIn K mainGlobals "DEL" = some (some (.str "del" t_DEL)))
  {t_GREATEST_VALUE : Tok} (c_GREATEST_VALUE : PySem.W.nsIn K mainGlobals "GREATEST_VALUE" = some (some (.int 1000000000000000000 t_GREATEST_VALUE)))
  {t_KEEP : Tok} (c_KEEP : PySem.W.nsIn K mainGlobals "KEEP" = some (some (.str "keep" t_KEEP)))
  {t_LETTERS : Tok} (c_LETTERS : PySem.W.nsIn K mainGlobals "LETTERS" = some (some (.str "abcdefghijklmnopqrstuvwxyz" t_LETTERS)))
  {t_LONGEST_WORD : Tok} (c_LONGEST_WORD : PySem.W.nsIn K mainGlobals "LONGEST_WORD" = some (some (.int 8 t_LONGEST_WORD)))
  {t_MARK : Tok} (c_MARK : PySem.W.nsIn K mainGlobals "MARK" = some (some (.str "mark" t_MARK)))
  {t_MOST_COMMANDS : Tok} (c_MOST_COMMANDS : PySem.W.nsIn K mainGlobals "MOST_COMMANDS" = some (some (.int 60 t_MOST_COMMANDS)))
  {t_SET : Tok} (c_SET : PySem.W.nsIn K mainGlobals "SET" = some (some (.str "set" t_SET)))
  {f_is_integer : Addr} {od_is_integer an_is_integer : Option Addr} {sl_is_integer : Array (Option Value)} {oc_is_integer kV_is_integer dc_is_integer pm_is_integer cd_is_integer ct_is_integer : Value}
  (a_is_integer : PySem.W.nsIn K mainGlobals "is_integer" = some (some (.ref f_is_integer)))
  (l_is_integer : K.lookup f_is_integer = some ⟨oc_is_integer, od_is_integer, .func (PySem.W.fnOf "is_integer" "is_integer" (defArgs s_is_integer) (defBody s_is_integer) (defScope s_is_integer) .none kV_is_integer dc_is_integer pm_is_integer an_is_integer cd_is_integer ct_is_integer), sl_is_integer⟩)
  (e_is_integer : PySem.W.codeIn K cd_is_integer "is_integer" = true)
  (k_is_integer : PySem.W.keepIn K (.ref f_is_integer) = true)
  {f_is_between : Addr} {od_is_between an_is_between : Option Addr} {sl_is_between : Array (Option Value)} {oc_is_between kV_is_between dc_is_between pm_is_between cd_is_between ct_is_between : Value}
  (a_is_between : PySem.W.nsIn K mainGlobals "is_between" = some (some (.ref f_is_between)))
  (l_is_between : K.lookup f_is_between = some ⟨oc_is_between, od_is_between, .func (PySem.W.fnOf "is_between" "is_between" (defArgs s_is_between) (defBody s_is_between) (defScope s_is_between) .none kV_is_between dc_is_between pm_is_between an_is_between cd_is_between ct_is_between), sl_is_between⟩)
  (e_is_between : PySem.W.codeIn K cd_is_between "is_between" = true)
  (k_is_between : PySem.W.keepIn K (.ref f_is_between) = true)
  {f_is_word : Addr} {od_is_word an_is_word : Option Addr} {sl_is_word : Array (Option Value)} {oc_is_word kV_is_word dc_is_word pm_is_word cd_is_word ct_is_word : Value}
  (a_is_word : PySem.W.nsIn K mainGlobals "is_word" = some (some (.ref f_is_word)))
  (l_is_word : K.lookup f_is_word = some ⟨oc_is_word, od_is_word, .func (PySem.W.fnOf "is_word" "is_word" (defArgs s_is_word) (defBody s_is_word) (defScope s_is_word) .none kV_is_word dc_is_word pm_is_word an_is_word cd_is_word ct_is_word), sl_is_word⟩)
  (e_is_word : PySem.W.codeIn K cd_is_word "is_word" = true)
  (k_is_word : PySem.W.keepIn K (.ref f_is_word) = true)
  {f_is_value : Addr} {od_is_value an_is_value : Option Addr} {sl_is_value : Array (Option Value)} {oc_is_value kV_is_value dc_is_value pm_is_value cd_is_value ct_is_value : Value}
  (a_is_value : PySem.W.nsIn K mainGlobals "is_value" = some (some (.ref f_is_value)))
  (l_is_value : K.lookup f_is_value = some ⟨oc_is_value, od_is_value, .func (PySem.W.fnOf "is_value" "is_value" (defArgs s_is_value) (defBody s_is_value) (defScope s_is_value) .none kV_is_value dc_is_value pm_is_value an_is_value cd_is_value ct_is_value), sl_is_value⟩)
  (e_is_value : PySem.W.codeIn K cd_is_value "is_value" = true)
  (k_is_value : PySem.W.keepIn K (.ref f_is_value) = true)
  {f_pairs_of : Addr} {od_pairs_of an_pairs_of : Option Addr} {sl_pairs_of : Array (Option Value)} {oc_pairs_of kV_pairs_of dc_pairs_of pm_pairs_of cd_pairs_of ct_pairs_of : Value}
  (a_pairs_of : PySem.W.nsIn K mainGlobals "pairs_of" = some (some (.ref f_pairs_of)))
  (l_pairs_of : K.lookup f_pairs_of = some ⟨oc_pairs_of, od_pairs_of, .func (PySem.W.fnOf "pairs_of" "pairs_of" (defArgs s_pairs_of) (defBody s_pairs_of) (defScope s_pairs_of) .none kV_pairs_of dc_pairs_of pm_pairs_of an_pairs_of cd_pairs_of ct_pairs_of), sl_pairs_of⟩)
  (e_pairs_of : PySem.W.codeIn K cd_pairs_of "pairs_of" = true)
  (k_pairs_of : PySem.W.keepIn K (.ref f_pairs_of) = true)
  {f_overlaid : Addr} {od_overlaid an_overlaid : Option Addr} {sl_overlaid : Array (Option Value)} {oc_overlaid kV_overlaid dc_overlaid pm_overlaid cd_overlaid ct_overlaid : Value}
  (a_overlaid : PySem.W.nsIn K mainGlobals "overlaid" = some (some (.ref f_overlaid)))
  (l_overlaid : K.lookup f_overlaid = some ⟨oc_overlaid, od_overlaid, .func (PySem.W.fnOf "overlaid" "overlaid" (defArgs s_overlaid) (defBody s_overlaid) (defScope s_overlaid) .none kV_overlaid dc_overlaid pm_overlaid an_overlaid cd_overlaid ct_overlaid), sl_overlaid⟩)
  (e_overlaid : PySem.W.codeIn K cd_overlaid "overlaid" = true)
  (k_overlaid : PySem.W.keepIn K (.ref f_overlaid) = true)
  {f_applied : Addr} {od_applied an_applied : Option Addr} {sl_applied : Array (Option Value)} {oc_applied kV_applied dc_applied pm_applied cd_applied ct_applied : Value}
  (a_applied : PySem.W.nsIn K mainGlobals "applied" = some (some (.ref f_applied)))
  (l_applied : K.lookup f_applied = some ⟨oc_applied, od_applied, .func (PySem.W.fnOf "applied" "applied" (defArgs s_applied) (defBody s_applied) (defScope s_applied) .none kV_applied dc_applied pm_applied an_applied cd_applied ct_applied), sl_applied⟩)
  (e_applied : PySem.W.codeIn K cd_applied "applied" = true)
  (k_applied : PySem.W.keepIn K (.ref f_applied) = true)
  {f_is_command : Addr} {od_is_command an_is_command : Option Addr} {sl_is_command : Array (Option Value)} {oc_is_command kV_is_command dc_is_command pm_is_command cd_is_command ct_is_command : Value}
  (a_is_command : PySem.W.nsIn K mainGlobals "is_command" = some (some (.ref f_is_command)))
  (l_is_command : K.lookup f_is_command = some ⟨oc_is_command, od_is_command, .func (PySem.W.fnOf "is_command" "is_command" (defArgs s_is_command) (defBody s_is_command) (defScope s_is_command) .none kV_is_command dc_is_command pm_is_command an_is_command cd_is_command ct_is_command), sl_is_command⟩)
  (e_is_command : PySem.W.codeIn K cd_is_command "is_command" = true)
  (k_is_command : PySem.W.keepIn K (.ref f_is_command) = true)
  {f_is_write : Addr} {od_is_write an_is_write : Option Addr} {sl_is_write : Array (Option Value)} {oc_is_write kV_is_write dc_is_write pm_is_write cd_is_write ct_is_write : Value}
  (a_is_write : PySem.W.nsIn K mainGlobals "is_write" = some (some (.ref f_is_write)))
  (l_is_write : K.lookup f_is_write = some ⟨oc_is_write, od_is_write, .func (PySem.W.fnOf "is_write" "is_write" (defArgs s_is_write) (defBody s_is_write) (defScope s_is_write) .none kV_is_write dc_is_write pm_is_write an_is_write cd_is_write ct_is_write), sl_is_write⟩)
  (e_is_write : PySem.W.codeIn K cd_is_write "is_write" = true)
  (k_is_write : PySem.W.keepIn K (.ref f_is_write) = true)
  {f_entry_of : Addr} {od_entry_of an_entry_of : Option Addr} {sl_entry_of : Array (Option Value)} {oc_entry_of kV_entry_of dc_entry_of pm_entry_of cd_entry_of ct_entry_of : Value}
  (a_entry_of : PySem.W.nsIn K mainGlobals "entry_of" = some (some (.ref f_entry_of)))
  (l_entry_of : K.lookup f_entry_of = some ⟨oc_entry_of, od_entry_of, .func (PySem.W.fnOf "entry_of" "entry_of" (defArgs s_entry_of) (defBody s_entry_of) (defScope s_entry_of) .none kV_entry_of dc_entry_of pm_entry_of an_entry_of cd_entry_of ct_entry_of), sl_entry_of⟩)
  (e_entry_of : PySem.W.codeIn K cd_entry_of "entry_of" = true)
  (k_entry_of : PySem.W.keepIn K (.ref f_entry_of) = true)
  {f_first_invalid : Addr} {od_first_invalid an_first_invalid : Option Addr} {sl_first_invalid : Array (Option Value)} {oc_first_invalid kV_first_invalid dc_first_invalid pm_first_invalid cd_first_invalid ct_first_invalid : Value}
  (a_first_invalid : PySem.W.nsIn K mainGlobals "first_invalid" = some (some (.ref f_first_invalid)))
  (l_first_invalid : K.lookup f_first_invalid = some ⟨oc_first_invalid, od_first_invalid, .func (PySem.W.fnOf "first_invalid" "first_invalid" (defArgs s_first_invalid) (defBody s_first_invalid) (defScope s_first_invalid) .none kV_first_invalid dc_first_invalid pm_first_invalid an_first_invalid cd_first_invalid ct_first_invalid), sl_first_invalid⟩)
  (e_first_invalid : PySem.W.codeIn K cd_first_invalid "first_invalid" = true)
  (k_first_invalid : PySem.W.keepIn K (.ref f_first_invalid) = true)
  {f_need_script : Addr} {od_need_script an_need_script : Option Addr} {sl_need_script : Array (Option Value)} {oc_need_script kV_need_script dc_need_script pm_need_script cd_need_script ct_need_script : Value}
  (a_need_script : PySem.W.nsIn K mainGlobals "need_script" = some (some (.ref f_need_script)))
  (l_need_script : K.lookup f_need_script = some ⟨oc_need_script, od_need_script, .func (PySem.W.fnOf "need_script" "need_script" (defArgs s_need_script) (defBody s_need_script) (defScope s_need_script) .none kV_need_script dc_need_script pm_need_script an_need_script cd_need_script ct_need_script), sl_need_script⟩)
  (e_need_script : PySem.W.codeIn K cd_need_script "need_script" = true)
  (k_need_script : PySem.W.keepIn K (.ref f_need_script) = true)
  {f_rule_of_writes : Addr} {od_rule_of_writes an_rule_of_writes : Option Addr} {sl_rule_of_writes : Array (Option Value)} {oc_rule_of_writes kV_rule_of_writes dc_rule_of_writes pm_rule_of_writes cd_rule_of_writes ct_rule_of_writes : Value}
  (a_rule_of_writes : PySem.W.nsIn K mainGlobals "rule_of_writes" = some (some (.ref f_rule_of_writes)))
  (l_rule_of_writes : K.lookup f_rule_of_writes = some ⟨oc_rule_of_writes, od_rule_of_writes, .func (PySem.W.fnOf "rule_of_writes" "rule_of_writes" (defArgs s_rule_of_writes) (defBody s_rule_of_writes) (defScope s_rule_of_writes) .none kV_rule_of_writes dc_rule_of_writes pm_rule_of_writes an_rule_of_writes cd_rule_of_writes ct_rule_of_writes), sl_rule_of_writes⟩)
  (e_rule_of_writes : PySem.W.codeIn K cd_rule_of_writes "rule_of_writes" = true)
  (k_rule_of_writes : PySem.W.keepIn K (.ref f_rule_of_writes) = true)
  {f_rule_of_two : Addr} {od_rule_of_two an_rule_of_two : Option Addr} {sl_rule_of_two : Array (Option Value)} {oc_rule_of_two kV_rule_of_two dc_rule_of_two pm_rule_of_two cd_rule_of_two ct_rule_of_two : Value}
  (a_rule_of_two : PySem.W.nsIn K mainGlobals "rule_of_two" = some (some (.ref f_rule_of_two)))
  (l_rule_of_two : K.lookup f_rule_of_two = some ⟨oc_rule_of_two, od_rule_of_two, .func (PySem.W.fnOf "rule_of_two" "rule_of_two" (defArgs s_rule_of_two) (defBody s_rule_of_two) (defScope s_rule_of_two) .none kV_rule_of_two dc_rule_of_two pm_rule_of_two an_rule_of_two cd_rule_of_two ct_rule_of_two), sl_rule_of_two⟩)
  (e_rule_of_two : PySem.W.codeIn K cd_rule_of_two "rule_of_two" = true)
  (k_rule_of_two : PySem.W.keepIn K (.ref f_rule_of_two) = true)
  {f_rule_of_three : Addr} {od_rule_of_three an_rule_of_three : Option Addr} {sl_rule_of_three : Array (Option Value)} {oc_rule_of_three kV_rule_of_three dc_rule_of_three pm_rule_of_three cd_rule_of_three ct_rule_of_three : Value}
  (a_rule_of_three : PySem.W.nsIn K mainGlobals "rule_of_three" = some (some (.ref f_rule_of_three)))
  (l_rule_of_three : K.lookup f_rule_of_three = some ⟨oc_rule_of_three, od_rule_of_three, .func (PySem.W.fnOf "rule_of_three" "rule_of_three" (defArgs s_rule_of_three) (defBody s_rule_of_three) (defScope s_rule_of_three) .none kV_rule_of_three dc_rule_of_three pm_rule_of_three an_rule_of_three cd_rule_of_three ct_rule_of_three), sl_rule_of_three⟩)
  (e_rule_of_three : PySem.W.codeIn K cd_rule_of_three "rule_of_three" = true)
  (k_rule_of_three : PySem.W.keepIn K (.ref f_rule_of_three) = true)
  {f_rule_from : Addr} {od_rule_from an_rule_from : Option Addr} {sl_rule_from : Array (Option Value)} {oc_rule_from kV_rule_from dc_rule_from pm_rule_from cd_rule_from ct_rule_from : Value}
  (a_rule_from : PySem.W.nsIn K mainGlobals "rule_from" = some (some (.ref f_rule_from)))
  (l_rule_from : K.lookup f_rule_from = some ⟨oc_rule_from, od_rule_from, .func (PySem.W.fnOf "rule_from" "rule_from" (defArgs s_rule_from) (defBody s_rule_from) (defScope s_rule_from) .none kV_rule_from dc_rule_from pm_rule_from an_rule_from cd_rule_from ct_rule_from), sl_rule_from⟩)
  (e_rule_from : PySem.W.codeIn K cd_rule_from "rule_from" = true)
  (k_rule_from : PySem.W.keepIn K (.ref f_rule_from) = true)
  {f_rule_of : Addr} {od_rule_of an_rule_of : Option Addr} {sl_rule_of : Array (Option Value)} {oc_rule_of kV_rule_of dc_rule_of pm_rule_of cd_rule_of ct_rule_of : Value}
  (a_rule_of : PySem.W.nsIn K mainGlobals "rule_of" = some (some (.ref f_rule_of)))
  (l_rule_of : K.lookup f_rule_of = some ⟨oc_rule_of, od_rule_of, .func (PySem.W.fnOf "rule_of" "rule_of" (defArgs s_rule_of) (defBody s_rule_of) (defScope s_rule_of) .none kV_rule_of dc_rule_of pm_rule_of an_rule_of cd_rule_of ct_rule_of), sl_rule_of⟩)
  (e_rule_of : PySem.W.codeIn K cd_rule_of "rule_of" = true)
  (k_rule_of : PySem.W.keepIn K (.ref f_rule_of) = true)
  {f_nearest_place : Addr} {od_nearest_place an_nearest_place : Option Addr} {sl_nearest_place : Array (Option Value)} {oc_nearest_place kV_nearest_place dc_nearest_place pm_nearest_place cd_nearest_place ct_nearest_place : Value}
  (a_nearest_place : PySem.W.nsIn K mainGlobals "nearest_place" = some (some (.ref f_nearest_place)))
  (l_nearest_place : K.lookup f_nearest_place = some ⟨oc_nearest_place, od_nearest_place, .func (PySem.W.fnOf "nearest_place" "nearest_place" (defArgs s_nearest_place) (defBody s_nearest_place) (defScope s_nearest_place) .none kV_nearest_place dc_nearest_place pm_nearest_place an_nearest_place cd_nearest_place ct_nearest_place), sl_nearest_place⟩)
  (e_nearest_place : PySem.W.codeIn K cd_nearest_place "nearest_place" = true)
  (k_nearest_place : PySem.W.keepIn K (.ref f_nearest_place) = true)
  {f_done : Addr} {od_done an_done : Option Addr} {sl_done : Array (Option Value)} {oc_done kV_done dc_done pm_done cd_done ct_done : Value}
  (a_done : PySem.W.nsIn K mainGlobals "done" = some (some (.ref f_done)))
  (l_done : K.lookup f_done = some ⟨oc_done, od_done, .func (PySem.W.fnOf "done" "done" (defArgs s_done) (defBody s_done) (defScope s_done) .none kV_done dc_done pm_done an_done cd_done ct_done), sl_done⟩)
  (e_done : PySem.W.codeIn K cd_done "done" = true)
  (k_done : PySem.W.keepIn K (.ref f_done) = true)
  {f_outcome : Addr} {od_outcome an_outcome : Option Addr} {sl_outcome : Array (Option Value)} {oc_outcome kV_outcome dc_outcome pm_outcome cd_outcome ct_outcome : Value}
  (a_outcome : PySem.W.nsIn K mainGlobals "outcome" = some (some (.ref f_outcome)))
  (l_outcome : K.lookup f_outcome = some ⟨oc_outcome, od_outcome, .func (PySem.W.fnOf "outcome" "outcome" (defArgs s_outcome) (defBody s_outcome) (defScope s_outcome) .none kV_outcome dc_outcome pm_outcome an_outcome cd_outcome ct_outcome), sl_outcome⟩)
  (e_outcome : PySem.W.codeIn K cd_outcome "outcome" = true)
  (k_outcome : PySem.W.keepIn K (.ref f_outcome) = true)
  {f_l_pen : Addr} {od_l_pen an_l_pen : Option Addr} {sl_l_pen : Array (Option Value)} {oc_l_pen kV_l_pen dc_l_pen pm_l_pen cd_l_pen ct_l_pen : Value}
  (a_l_pen : PySem.W.nsIn K mainGlobals "_law_pen" = some (some (.ref f_l_pen)))
  (l_l_pen : K.lookup f_l_pen = some ⟨oc_l_pen, od_l_pen, .func (PySem.W.fnOf "_law_pen" "_law_pen" (defArgs s_l_pen) (defBody s_l_pen) (defScope s_l_pen) .none kV_l_pen dc_l_pen pm_l_pen an_l_pen cd_l_pen ct_l_pen), sl_l_pen⟩)
  (e_l_pen : PySem.W.codeIn K cd_l_pen "_law_pen" = true)
  (k_l_pen : PySem.W.keepIn K (.ref f_l_pen) = true)
  {f_l_draw : Addr} {od_l_draw an_l_draw : Option Addr} {sl_l_draw : Array (Option Value)} {oc_l_draw kV_l_draw dc_l_draw pm_l_draw cd_l_draw ct_l_draw : Value}
  (a_l_draw : PySem.W.nsIn K mainGlobals "_law_draw" = some (some (.ref f_l_draw)))
  (l_l_draw : K.lookup f_l_draw = some ⟨oc_l_draw, od_l_draw, .func (PySem.W.fnOf "_law_draw" "_law_draw" (defArgs s_l_draw) (defBody s_l_draw) (defScope s_l_draw) .none kV_l_draw dc_l_draw pm_l_draw an_l_draw cd_l_draw ct_l_draw), sl_l_draw⟩)
  (e_l_draw : PySem.W.codeIn K cd_l_draw "_law_draw" = true)
  (k_l_draw : PySem.W.keepIn K (.ref f_l_draw) = true)
  {f_l_pick : Addr} {od_l_pick an_l_pick : Option Addr} {sl_l_pick : Array (Option Value)} {oc_l_pick kV_l_pick dc_l_pick pm_l_pick cd_l_pick ct_l_pick : Value}
  (a_l_pick : PySem.W.nsIn K mainGlobals "_law_pick" = some (some (.ref f_l_pick)))
  (l_l_pick : K.lookup f_l_pick = some ⟨oc_l_pick, od_l_pick, .func (PySem.W.fnOf "_law_pick" "_law_pick" (defArgs s_l_pick) (defBody s_l_pick) (defScope s_l_pick) .none kV_l_pick dc_l_pick pm_l_pick an_l_pick cd_l_pick ct_l_pick), sl_l_pick⟩)
  (e_l_pick : PySem.W.codeIn K cd_l_pick "_law_pick" = true)
  (k_l_pick : PySem.W.keepIn K (.ref f_l_pick) = true)
  {f_l_words : Addr} {od_l_words an_l_words : Option Addr} {sl_l_words : Array (Option Value)} {oc_l_words kV_l_words dc_l_words pm_l_words cd_l_words ct_l_words : Value}
  (a_l_words : PySem.W.nsIn K mainGlobals "_law_words" = some (some (.ref f_l_words)))
  (l_l_words : K.lookup f_l_words = some ⟨oc_l_words, od_l_words, .func (PySem.W.fnOf "_law_words" "_law_words" (defArgs s_l_words) (defBody s_l_words) (defScope s_l_words) .none kV_l_words dc_l_words pm_l_words an_l_words cd_l_words ct_l_words), sl_l_words⟩)
  (e_l_words : PySem.W.codeIn K cd_l_words "_law_words" = true)
  (k_l_words : PySem.W.keepIn K (.ref f_l_words) = true)
  {f_l_value : Addr} {od_l_value an_l_value : Option Addr} {sl_l_value : Array (Option Value)} {oc_l_value kV_l_value dc_l_value pm_l_value cd_l_value ct_l_value : Value}
  (a_l_value : PySem.W.nsIn K mainGlobals "_law_value" = some (some (.ref f_l_value)))
  (l_l_value : K.lookup f_l_value = some ⟨oc_l_value, od_l_value, .func (PySem.W.fnOf "_law_value" "_law_value" (defArgs s_l_value) (defBody s_l_value) (defScope s_l_value) .none kV_l_value dc_l_value pm_l_value an_l_value cd_l_value ct_l_value), sl_l_value⟩)
  (e_l_value : PySem.W.codeIn K cd_l_value "_law_value" = true)
  (k_l_value : PySem.W.keepIn K (.ref f_l_value) = true)
  {f_l_command : Addr} {od_l_command an_l_command : Option Addr} {sl_l_command : Array (Option Value)} {oc_l_command kV_l_command dc_l_command pm_l_command cd_l_command ct_l_command : Value}
  (a_l_command : PySem.W.nsIn K mainGlobals "_law_command" = some (some (.ref f_l_command)))
  (l_l_command : K.lookup f_l_command = some ⟨oc_l_command, od_l_command, .func (PySem.W.fnOf "_law_command" "_law_command" (defArgs s_l_command) (defBody s_l_command) (defScope s_l_command) .none kV_l_command dc_l_command pm_l_command an_l_command cd_l_command ct_l_command), sl_l_command⟩)
  (e_l_command : PySem.W.codeIn K cd_l_command "_law_command" = true)
  (k_l_command : PySem.W.keepIn K (.ref f_l_command) = true)
  {f_l_commands : Addr} {od_l_commands an_l_commands : Option Addr} {sl_l_commands : Array (Option Value)} {oc_l_commands kV_l_commands dc_l_commands pm_l_commands cd_l_commands ct_l_commands : Value}
  (a_l_commands : PySem.W.nsIn K mainGlobals "_law_commands" = some (some (.ref f_l_commands)))
  (l_l_commands : K.lookup f_l_commands = some ⟨oc_l_commands, od_l_commands, .func (PySem.W.fnOf "_law_commands" "_law_commands" (defArgs s_l_commands) (defBody s_l_commands) (defScope s_l_commands) .none kV_l_commands dc_l_commands pm_l_commands an_l_commands cd_l_commands ct_l_commands), sl_l_commands⟩)
  (e_l_commands : PySem.W.codeIn K cd_l_commands "_law_commands" = true)
  (k_l_commands : PySem.W.keepIn K (.ref f_l_commands) = true)
  {f_l_store : Addr} {od_l_store an_l_store : Option Addr} {sl_l_store : Array (Option Value)} {oc_l_store kV_l_store dc_l_store pm_l_store cd_l_store ct_l_store : Value}
  (a_l_store : PySem.W.nsIn K mainGlobals "_law_store" = some (some (.ref f_l_store)))
  (l_l_store : K.lookup f_l_store = some ⟨oc_l_store, od_l_store, .func (PySem.W.fnOf "_law_store" "_law_store" (defArgs s_l_store) (defBody s_l_store) (defScope s_l_store) .none kV_l_store dc_l_store pm_l_store an_l_store cd_l_store ct_l_store), sl_l_store⟩)
  (e_l_store : PySem.W.codeIn K cd_l_store "_law_store" = true)
  (k_l_store : PySem.W.keepIn K (.ref f_l_store) = true)
  {f_l_state : Addr} {od_l_state an_l_state : Option Addr} {sl_l_state : Array (Option Value)} {oc_l_state kV_l_state dc_l_state pm_l_state cd_l_state ct_l_state : Value}
  (a_l_state : PySem.W.nsIn K mainGlobals "_law_state" = some (some (.ref f_l_state)))
  (l_l_state : K.lookup f_l_state = some ⟨oc_l_state, od_l_state, .func (PySem.W.fnOf "_law_state" "_law_state" (defArgs s_l_state) (defBody s_l_state) (defScope s_l_state) .none kV_l_state dc_l_state pm_l_state an_l_state cd_l_state ct_l_state), sl_l_state⟩)
  (e_l_state : PySem.W.codeIn K cd_l_state "_law_state" = true)
  (k_l_state : PySem.W.keepIn K (.ref f_l_state) = true)
  {f_l_do : Addr} {od_l_do an_l_do : Option Addr} {sl_l_do : Array (Option Value)} {oc_l_do kV_l_do dc_l_do pm_l_do cd_l_do ct_l_do : Value}
  (a_l_do : PySem.W.nsIn K mainGlobals "_law_do" = some (some (.ref f_l_do)))
  (l_l_do : K.lookup f_l_do = some ⟨oc_l_do, od_l_do, .func (PySem.W.fnOf "_law_do" "_law_do" (defArgs s_l_do) (defBody s_l_do) (defScope s_l_do) .none kV_l_do dc_l_do pm_l_do an_l_do cd_l_do ct_l_do), sl_l_do⟩)
  (e_l_do : PySem.W.codeIn K cd_l_do "_law_do" = true)
  (k_l_do : PySem.W.keepIn K (.ref f_l_do) = true)
  {f_l_run : Addr} {od_l_run an_l_run : Option Addr} {sl_l_run : Array (Option Value)} {oc_l_run kV_l_run dc_l_run pm_l_run cd_l_run ct_l_run : Value}
  (a_l_run : PySem.W.nsIn K mainGlobals "_law_run" = some (some (.ref f_l_run)))
  (l_l_run : K.lookup f_l_run = some ⟨oc_l_run, od_l_run, .func (PySem.W.fnOf "_law_run" "_law_run" (defArgs s_l_run) (defBody s_l_run) (defScope s_l_run) .none kV_l_run dc_l_run pm_l_run an_l_run cd_l_run ct_l_run), sl_l_run⟩)
  (e_l_run : PySem.W.codeIn K cd_l_run "_law_run" = true)
  (k_l_run : PySem.W.keepIn K (.ref f_l_run) = true)
  {f_l_opened : Addr} {od_l_opened an_l_opened : Option Addr} {sl_l_opened : Array (Option Value)} {oc_l_opened kV_l_opened dc_l_opened pm_l_opened cd_l_opened ct_l_opened : Value}
  (a_l_opened : PySem.W.nsIn K mainGlobals "_law_opened" = some (some (.ref f_l_opened)))
  (l_l_opened : K.lookup f_l_opened = some ⟨oc_l_opened, od_l_opened, .func (PySem.W.fnOf "_law_opened" "_law_opened" (defArgs s_l_opened) (defBody s_l_opened) (defScope s_l_opened) .none kV_l_opened dc_l_opened pm_l_opened an_l_opened cd_l_opened ct_l_opened), sl_l_opened⟩)
  (e_l_opened : PySem.W.codeIn K cd_l_opened "_law_opened" = true)
  (k_l_opened : PySem.W.keepIn K (.ref f_l_opened) = true)
  {f_l_shut : Addr} {od_l_shut an_l_shut : Option Addr} {sl_l_shut : Array (Option Value)} {oc_l_shut kV_l_shut dc_l_shut pm_l_shut cd_l_shut ct_l_shut : Value}
  (a_l_shut : PySem.W.nsIn K mainGlobals "_law_shut" = some (some (.ref f_l_shut)))
  (l_l_shut : K.lookup f_l_shut = some ⟨oc_l_shut, od_l_shut, .func (PySem.W.fnOf "_law_shut" "_law_shut" (defArgs s_l_shut) (defBody s_l_shut) (defScope s_l_shut) .none kV_l_shut dc_l_shut pm_l_shut an_l_shut cd_l_shut ct_l_shut), sl_l_shut⟩)
  (e_l_shut : PySem.W.codeIn K cd_l_shut "_law_shut" = true)
  (k_l_shut : PySem.W.keepIn K (.ref f_l_shut) = true)
  {f_l_sides : Addr} {od_l_sides an_l_sides : Option Addr} {sl_l_sides : Array (Option Value)} {oc_l_sides kV_l_sides dc_l_sides pm_l_sides cd_l_sides ct_l_sides : Value}
  (a_l_sides : PySem.W.nsIn K mainGlobals "_law_sides" = some (some (.ref f_l_sides)))
  (l_l_sides : K.lookup f_l_sides = some ⟨oc_l_sides, od_l_sides, .func (PySem.W.fnOf "_law_sides" "_law_sides" (defArgs s_l_sides) (defBody s_l_sides) (defScope s_l_sides) .none kV_l_sides dc_l_sides pm_l_sides an_l_sides cd_l_sides ct_l_sides), sl_l_sides⟩)
  (e_l_sides : PySem.W.codeIn K cd_l_sides "_law_sides" = true)
  (k_l_sides : PySem.W.keepIn K (.ref f_l_sides) = true)
  {f_l_write : Addr} {od_l_write an_l_write : Option Addr} {sl_l_write : Array (Option Value)} {oc_l_write kV_l_write dc_l_write pm_l_write cd_l_write ct_l_write : Value}
  (a_l_write : PySem.W.nsIn K mainGlobals "_law_write" = some (some (.ref f_l_write)))
  (l_l_write : K.lookup f_l_write = some ⟨oc_l_write, od_l_write, .func (PySem.W.fnOf "_law_write" "_law_write" (defArgs s_l_write) (defBody s_l_write) (defScope s_l_write) .none kV_l_write dc_l_write pm_l_write an_l_write cd_l_write ct_l_write), sl_l_write⟩)
  (e_l_write : PySem.W.codeIn K cd_l_write "_law_write" = true)
  (k_l_write : PySem.W.keepIn K (.ref f_l_write) = true)
  {f_l_alike : Addr} {od_l_alike an_l_alike : Option Addr} {sl_l_alike : Array (Option Value)} {oc_l_alike kV_l_alike dc_l_alike pm_l_alike cd_l_alike ct_l_alike : Value}
  (a_l_alike : PySem.W.nsIn K mainGlobals "_law_alike" = some (some (.ref f_l_alike)))
  (l_l_alike : K.lookup f_l_alike = some ⟨oc_l_alike, od_l_alike, .func (PySem.W.fnOf "_law_alike" "_law_alike" (defArgs s_l_alike) (defBody s_l_alike) (defScope s_l_alike) .none kV_l_alike dc_l_alike pm_l_alike an_l_alike cd_l_alike ct_l_alike), sl_l_alike⟩)
  (e_l_alike : PySem.W.codeIn K cd_l_alike "_law_alike" = true)
  (k_l_alike : PySem.W.keepIn K (.ref f_l_alike) = true)
  {f_law : Addr} {od_law an_law : Option Addr} {sl_law : Array (Option Value)} {oc_law kV_law dc_law pm_law cd_law ct_law : Value}
  (a_law : PySem.W.nsIn K mainGlobals "law" = some (some (.ref f_law)))
  (l_law : K.lookup f_law = some ⟨oc_law, od_law, .func (PySem.W.fnOf "law" "law" (defArgs s_law) (defBody s_law) (defScope s_law) .none kV_law dc_law pm_law an_law cd_law ct_law), sl_law⟩)
  (e_law : PySem.W.codeIn K cd_law "law" = true)
  (k_law : PySem.W.keepIn K (.ref f_law) = true) :
  ∃ fd : FuncData, (∀ (s : Shared) (u : Value), BindsTo s fd ⟨[u], []⟩ [("_law_script", u)]) ∧ ∀ base : Heap, K.In base → base.Ns mainGlobals mg → FnG P w K mg base 9 fa fd ["_law_script"] (spLaw K) := by
  have e := hfa.symm.trans (PySem.W.mg_of X G a_law)
  cases e
  have T : ∃ T : Facts K mg, T.f_law = fa ∧ T.d_law = PySem.W.fnOf "law" "law" (defArgs s_law) (defBody s_law) (defScope s_law) .none kV_law dc_law pm_law an_law cd_law ct_law := ⟨⟨PySem.W.mg_none_of X G z_abs,
    PySem.W.mg_none_of X G z_all,
    PySem.W.mg_none_of X G z_bool,
    PySem.W.mg_none_of X G z_dict,
    PySem.W.mg_none_of X G z_enumerate,
    PySem.W.mg_none_of X G z_int,
    PySem.W.mg_none_of X G z_isinstance,
    PySem.W.mg_none_of X G z_len,
    PySem.W.mg_none_of X G z_list,
    PySem.W.mg_none_of X G z_min,
    PySem.W.mg_none_of X G z_range,
    PySem.W.mg_none_of X G z_sorted,
    PySem.W.mg_none_of X G z_str,
    PySem.W.mg_none_of X G z_tuple,
    ⟨t_BACK, PySem.W.mg_of X G c_BACK⟩,
    ⟨t_DEL, PySem.W.mg_of X G c_DEL⟩,
    ⟨t_GREATEST_VALUE, PySem.W.mg_of X G c_GREATEST_VALUE⟩,
    ⟨t_KEEP, PySem.W.mg_of X G c_KEEP⟩,
    ⟨t_LETTERS, PySem.W.mg_of X G c_LETTERS⟩,
    ⟨t_LONGEST_WORD, PySem.W.mg_of X G c_LONGEST_WORD⟩,
    ⟨t_MARK, PySem.W.mg_of X G c_MARK⟩,
    ⟨t_MOST_COMMANDS, PySem.W.mg_of X G c_MOST_COMMANDS⟩,
    ⟨t_SET, PySem.W.mg_of X G c_SET⟩,
    f_is_integer, _, (fun_mk (st := s_is_integer) l_is_integer e_is_integer k_is_integer), PySem.W.mg_of X G a_is_integer, ((fun_mk (st := s_is_integer) l_is_integer e_is_integer k_is_integer)).binds (ps := ["value"]) fun _ _ _ _ _ _ us hl => match us, hl with | [_], _ => rfl,
    f_is_between, _, (fun_mk (st := s_is_between) l_is_between e_is_between k_is_between), PySem.W.mg_of X G a_is_between, ((fun_mk (st := s_is_between) l_is_between e_is_between k_is_between)).binds (ps := ["value", "least", "most"]) fun _ _ _ _ _ _ us hl => match us, hl with | [_, _, _], _ => rfl,
    f_is_word, _, (fun_mk (st := s_is_word) l_is_word e_is_word k_is_word), PySem.W.mg_of X G a_is_word, ((fun_mk (st := s_is_word) l_is_word e_is_word k_is_word)).binds (ps := ["value"]) fun _ _ _ _ _ _ us hl => match us, hl with | [_], _ => rfl,
    f_is_value, _, (fun_mk (st := s_is_value) l_is_value e_is_value k_is_value), PySem.W.mg_of X G a_is_value, ((fun_mk (st := s_is_value) l_is_value e_is_value k_is_value)).binds (ps := ["value"]) fun _ _ _ _ _ _ us hl => match us, hl with | [_], _ => rfl,
    f_pairs_of, _, (fun_mk (st := s_pairs_of) l_pairs_of e_pairs_of k_pairs_of), PySem.W.mg_of X G a_pairs_of, ((fun_mk (st := s_pairs_of) l_pairs_of e_pairs_of k_pairs_of)).binds (ps := ["entries"]) fun _ _ _ _ _ _ us hl => match us, hl with | [_], _ => rfl,
    f_overlaid, _, (fun_mk (st := s_overlaid) l_overlaid e_overlaid k_overlaid), PySem.W.mg_of X G a_overlaid, ((fun_mk (st := s_overlaid) l_overlaid e_overlaid k_overlaid)).binds (ps := ["lower", "upper"]) fun _ _ _ _ _ _ us hl => match us, hl with | [_, _], _ => rfl,
    f_applied, _, (fun_mk (st := s_applied) l_applied e_applied k_applied), PySem.W.mg_of X G a_applied, ((fun_mk (st := s_applied) l_applied e_applied k_applied)).binds (ps := ["store", "change"]) fun _ _ _ _ _ _ us hl => match us, hl with | [_, _], _ => rfl,
    f_is_command, _, (fun_mk (st := s_is_command) l_is_command e_is_command k_is_command), PySem.W.mg_of X G a_is_command, ((fun_mk (st := s_is_command) l_is_command e_is_command k_is_command)).binds (ps := ["value"]) fun _ _ _ _ _ _ us hl => match us, hl with | [_], _ => rfl,
    f_is_write, _, (fun_mk (st := s_is_write) l_is_write e_is_write k_is_write), PySem.W.mg_of X G a_is_write, ((fun_mk (st := s_is_write) l_is_write e_is_write k_is_write)).binds (ps := ["command"]) fun _ _ _ _ _ _ us hl => match us, hl with | [_], _ => rfl,
    f_entry_of, _, (fun_mk (st := s_entry_of) l_entry_of e_entry_of k_entry_of), PySem.W.mg_of X G a_entry_of, ((fun_mk (st := s_entry_of) l_entry_of e_entry_of k_entry_of)).binds (ps := ["command"]) fun _ _ _ _ _ _ us hl => match us, hl with | [_], _ => rfl,
    f_first_invalid, _, (fun_mk (st := s_first_invalid) l_first_invalid e_first_invalid k_first_invalid), PySem.W.mg_of X G a_first_invalid, ((fun_mk (st := s_first_invalid) l_first_invalid e_first_invalid k_first_invalid)).binds (ps := ["value"]) fun _ _ _ _ _ _ us hl => match us, hl with | [_], _ => rfl,
    f_need_script, _, (fun_mk (st := s_need_script) l_need_script e_need_script k_need_script), PySem.W.mg_of X G a_need_script, ((fun_mk (st := s_need_script) l_need_script e_need_script k_need_script)).binds (ps := ["value"]) fun _ _ _ _ _ _ us hl => match us, hl with | [_], _ => rfl,
    f_rule_of_writes, _, (fun_mk (st := s_rule_of_writes) l_rule_of_writes e_rule_of_writes k_rule_of_writes), PySem.W.mg_of X G a_rule_of_writes, ((fun_mk (st := s_rule_of_writes) l_rule_of_writes e_rule_of_writes k_rule_of_writes)).binds (ps := ["first", "second", "right"]) fun _ _ _ _ _ _ us hl => match us, hl with | [_, _, _], _ => rfl,
    f_rule_of_two, _, (fun_mk (st := s_rule_of_two) l_rule_of_two e_rule_of_two k_rule_of_two), PySem.W.mg_of X G a_rule_of_two, ((fun_mk (st := s_rule_of_two) l_rule_of_two e_rule_of_two k_rule_of_two)).binds (ps := ["left", "right"]) fun _ _ _ _ _ _ us hl => match us, hl with | [_, _], _ => rfl,
    f_rule_of_three, _, (fun_mk (st := s_rule_of_three) l_rule_of_three e_rule_of_three k_rule_of_three), PySem.W.mg_of X G a_rule_of_three, ((fun_mk (st := s_rule_of_three) l_rule_of_three e_rule_of_three k_rule_of_three)).binds (ps := ["left", "right"]) fun _ _ _ _ _ _ us hl => match us, hl with | [_, _], _ => rfl,
    f_rule_from, _, (fun_mk (st := s_rule_from) l_rule_from e_rule_from k_rule_from), PySem.W.mg_of X G a_rule_from, ((fun_mk (st := s_rule_from) l_rule_from e_rule_from k_rule_from)).binds (ps := ["left", "right"]) fun _ _ _ _ _ _ us hl => match us, hl with | [_, _], _ => rfl,
    f_rule_of, _, (fun_mk (st := s_rule_of) l_rule_of e_rule_of k_rule_of), PySem.W.mg_of X G a_rule_of, ((fun_mk (st := s_rule_of) l_rule_of e_rule_of k_rule_of)).binds (ps := ["before", "after"]) fun _ _ _ _ _ _ us hl => match us, hl with | [_, _], _ => rfl,
    f_nearest_place, _, (fun_mk (st := s_nearest_place) l_nearest_place e_nearest_place k_nearest_place), PySem.W.mg_of X G a_nearest_place, ((fun_mk (st := s_nearest_place) l_nearest_place e_nearest_place k_nearest_place)).binds (ps := ["pile", "name"]) fun _ _ _ _ _ _ us hl => match us, hl with | [_, _], _ => rfl,
    f_done, _, (fun_mk (st := s_done) l_done e_done k_done), PySem.W.mg_of X G a_done, ((fun_mk (st := s_done) l_done e_done k_done)).binds (ps := ["state", "command"]) fun _ _ _ _ _ _ us hl => match us, hl with | [_, _], _ => rfl,
    f_outcome, _, (fun_mk (st := s_outcome) l_outcome e_outcome k_outcome), PySem.W.mg_of X G a_outcome, ((fun_mk (st := s_outcome) l_outcome e_outcome k_outcome)).binds (ps := ["state", "commands"]) fun _ _ _ _ _ _ us hl => match us, hl with | [_, _], _ => rfl,
    f_l_pen, _, (fun_mk (st := s_l_pen) l_l_pen e_l_pen k_l_pen), PySem.W.mg_of X G a_l_pen, ((fun_mk (st := s_l_pen) l_l_pen e_l_pen k_l_pen)).binds (ps := ["_law_script"]) fun _ _ _ _ _ _ us hl => match us, hl with | [_], _ => rfl,
    f_l_draw, _, (fun_mk (st := s_l_draw) l_l_draw e_l_draw k_l_draw), PySem.W.mg_of X G a_l_draw, ((fun_mk (st := s_l_draw) l_l_draw e_l_draw k_l_draw)).binds (ps := ["_law_pen_here", "_law_many"]) fun _ _ _ _ _ _ us hl => match us, hl with | [_, _], _ => rfl,
    f_l_pick, _, (fun_mk (st := s_l_pick) l_l_pick e_l_pick k_l_pick), PySem.W.mg_of X G a_l_pick, ((fun_mk (st := s_l_pick) l_l_pick e_l_pick k_l_pick)).binds (ps := ["_law_pen_here", "_law_some"]) fun _ _ _ _ _ _ us hl => match us, hl with | [_, _], _ => rfl,
    f_l_words, _, (fun_mk (st := s_l_words) l_l_words e_l_words k_l_words), PySem.W.mg_of X G a_l_words, ((fun_mk (st := s_l_words) l_l_words e_l_words k_l_words)).binds (ps := ["_law_pen_here", "_law_many"]) fun _ _ _ _ _ _ us hl => match us, hl with | [_, _], _ => rfl,
    f_l_value, _, (fun_mk (st := s_l_value) l_l_value e_l_value k_l_value), PySem.W.mg_of X G a_l_value, ((fun_mk (st := s_l_value) l_l_value e_l_value k_l_value)).binds (ps := ["_law_pen_here"]) fun _ _ _ _ _ _ us hl => match us, hl with | [_], _ => rfl,
    f_l_command, _, (fun_mk (st := s_l_command) l_l_command e_l_command k_l_command), PySem.W.mg_of X G a_l_command, ((fun_mk (st := s_l_command) l_l_command e_l_command k_l_command)).binds (ps := ["_law_pen_here", "_law_words_here", "_law_keys"]) fun _ _ _ _ _ _ us hl => match us, hl with | [_, _, _], _ => rfl,
    f_l_commands, _, (fun_mk (st := s_l_commands) l_l_commands e_l_commands k_l_commands), PySem.W.mg_of X G a_l_commands, ((fun_mk (st := s_l_commands) l_l_commands e_l_commands k_l_commands)).binds (ps := ["_law_pen_here", "_law_words_here", "_law_keys", "_law_most"]) fun _ _ _ _ _ _ us hl => match us, hl with | [_, _, _, _], _ => rfl,
    f_l_store, _, (fun_mk (st := s_l_store) l_l_store e_l_store k_l_store), PySem.W.mg_of X G a_l_store, ((fun_mk (st := s_l_store) l_l_store e_l_store k_l_store)).binds (ps := ["_law_pen_here", "_law_keys"]) fun _ _ _ _ _ _ us hl => match us, hl with | [_, _], _ => rfl,
    f_l_state, _, (fun_mk (st := s_l_state) l_l_state e_l_state k_l_state), PySem.W.mg_of X G a_l_state, ((fun_mk (st := s_l_state) l_l_state e_l_state k_l_state)).binds (ps := ["_law_pen_here", "_law_words_here", "_law_keys", "_law_most"]) fun _ _ _ _ _ _ us hl => match us, hl with | [_, _, _, _], _ => rfl,
    f_l_do, _, (fun_mk (st := s_l_do) l_l_do e_l_do k_l_do), PySem.W.mg_of X G a_l_do, ((fun_mk (st := s_l_do) l_l_do e_l_do k_l_do)).binds (ps := ["_law_house", "_law_deed"]) fun _ _ _ _ _ _ us hl => match us, hl with | [_, _], _ => rfl,
    f_l_run, _, (fun_mk (st := s_l_run) l_l_run e_l_run k_l_run), PySem.W.mg_of X G a_l_run, ((fun_mk (st := s_l_run) l_l_run e_l_run k_l_run)).binds (ps := ["_law_house", "_law_deeds"]) fun _ _ _ _ _ _ us hl => match us, hl with | [_, _], _ => rfl,
    f_l_opened, _, (fun_mk (st := s_l_opened) l_l_opened e_l_opened k_l_opened), PySem.W.mg_of X G a_l_opened, ((fun_mk (st := s_l_opened) l_l_opened e_l_opened k_l_opened)).binds (ps := ["_law_house"]) fun _ _ _ _ _ _ us hl => match us, hl with | [_], _ => rfl,
    f_l_shut, _, (fun_mk (st := s_l_shut) l_l_shut e_l_shut k_l_shut), PySem.W.mg_of X G a_l_shut, ((fun_mk (st := s_l_shut) l_l_shut e_l_shut k_l_shut)).binds (ps := ["_law_house"]) fun _ _ _ _ _ _ us hl => match us, hl with | [_], _ => rfl,
    f_l_sides, _, (fun_mk (st := s_l_sides) l_l_sides e_l_sides k_l_sides), PySem.W.mg_of X G a_l_sides, ((fun_mk (st := s_l_sides) l_l_sides e_l_sides k_l_sides)).binds (ps := ["_law_number", "_law_a", "_law_b", "_law_one", "_law_other"]) fun _ _ _ _ _ _ us hl => match us, hl with | [_, _, _, _, _], _ => rfl,
    f_l_write, _, (fun_mk (st := s_l_write) l_l_write e_l_write k_l_write), PySem.W.mg_of X G a_l_write, ((fun_mk (st := s_l_write) l_l_write e_l_write k_l_write)).binds (ps := ["_law_pen_here", "_law_keys"]) fun _ _ _ _ _ _ us hl => match us, hl with | [_, _], _ => rfl,
    f_l_alike, _, (fun_mk (st := s_l_alike) l_l_alike e_l_alike k_l_alike), PySem.W.mg_of X G a_l_alike, ((fun_mk (st := s_l_alike) l_l_alike e_l_alike k_l_alike)).binds (ps := ["_law_house", "_law_mine", "_law_yours"]) fun _ _ _ _ _ _ us hl => match us, hl with | [_, _, _], _ => rfl,
    fa, _, (fun_mk (st := s_law) l_law e_law k_law), PySem.W.mg_of X G a_law, ((fun_mk (st := s_law) l_law e_law k_law)).binds (ps := ["_law_script"]) fun _ _ _ _ _ _ us hl => match us, hl with | [_], _ => rfl⟩, rfl, rfl⟩
  obtain ⟨T, e1, e2⟩ := T
  refine ⟨PySem.W.fnOf "law" "law" (defArgs s_law) (defBody s_law) (defScope s_law) .none kV_law dc_law pm_law an_law cd_law ct_law, fun s u => .of_eq rfl, fun base _ _ => ?_⟩
  have q := ok_law (P := P) (w := w) (base := base) T holds
  rw [e1, e2] at q
  exact q
end
end Q31
open PySem PySem.W PyProof.Rows
set_option maxHeartbeats 0 in
theorem PySem.Challenge.cw_rewindplan_k31_whole_rules_act_alike_holds : PySem.Challenge.rw_rewindplan_k31_whole_rules_act_alike.Holds := by
  w_on; o_law; k_head; (case hw => w_witness2)
  k_fill
  refine PL.law_end (l := PySem.Challenge.rw_rewindplan_k31_whole_rules_act_alike) (k := 9) (x := "_law_script") rfl rfl ⟨rfl, by decide, by decide⟩ (fun w h Y => PySem.W.kIn_of Y) ?F
  case F =>
    intro w mg fa h KX G hmg
    refine' Q31.fin KX G Q31.holds hmg ?z_abs ?z_all ?z_bool ?z_dict ?z_enumerate ?z_int ?z_isinstance ?z_len ?z_list ?z_min ?z_range ?z_sorted ?z_str ?z_tuple ?c_BACK ?c_DEL ?c_GREATEST_VALUE ?c_KEEP ?c_LETTERS ?c_LONGEST_WORD ?c_MARK ?c_MOST_COMMANDS ?c_SET ?a_is_integer ?l_is_integer ?e_is_integer ?k_is_integer ?a_is_between ?l_is_between ?e_is_between ?k_is_between ?a_is_word ?l_is_word ?e_is_word ?k_is_word ?a_is_value ?l_is_value ?e_is_value ?k_is_value ?a_pairs_of ?l_pairs_of ?e_pairs_of ?k_pairs_of ?a_overlaid ?l_overlaid ?e_overlaid ?k_overlaid ?a_applied ?l_applied ?e_applied ?k_applied ?a_is_command ?l_is_command ?e_is_command ?k_is_command ?a_is_write ?l_is_write ?e_is_write ?k_is_write ?a_entry_of ?l_entry_of ?e_entry_of ?k_entry_of ?a_first_invalid ?l_first_invalid ?e_first_invalid ?k_first_invalid ?a_need_script ?l_need_script ?e_need_script ?k_need_script ?a_rule_of_writes ?l_rule_of_writes ?e_rule_of_writes ?k_rule_of_writes ?a_rule_of_two ?l_rule_of_two ?e_rule_of_two ?k_rule_of_two ?a_rule_of_three ?l_rule_of_three ?e_rule_of_three ?k_rule_of_three ?a_rule_from ?l_rule_from ?e_rule_from ?k_rule_from ?a_rule_of ?l_rule_of ?e_rule_of ?k_rule_of ?a_nearest_place ?l_nearest_place ?e_nearest_place ?k_nearest_place ?a_done ?l_done ?e_done ?k_done ?a_outcome ?l_outcome ?e_outcome ?k_outcome ?a_l_pen ?l_l_pen ?e_l_pen ?k_l_pen ?a_l_draw ?l_l_draw ?e_l_draw ?k_l_draw ?a_l_pick ?l_l_pick ?e_l_pick ?k_l_pick ?a_l_words ?l_l_words ?e_l_words ?k_l_words ?a_l_value ?l_l_value ?e_l_value ?k_l_value ?a_l_command ?l_l_command ?e_l_command ?k_l_command ?a_l_commands ?l_l_commands ?e_l_commands ?k_l_commands ?a_l_store ?l_l_store ?e_l_store ?k_l_store ?a_l_state ?l_l_state ?e_l_state ?k_l_state ?a_l_do ?l_l_do ?e_l_do ?k_l_do ?a_l_run ?l_l_run ?e_l_run ?k_l_run ?a_l_opened ?l_l_opened ?e_l_opened ?k_l_opened ?a_l_shut ?l_l_shut ?e_l_shut ?k_l_shut ?a_l_sides ?l_l_sides ?e_l_sides ?k_l_sides ?a_l_write ?l_l_write ?e_l_write ?k_l_write ?a_l_alike ?l_l_alike ?e_l_alike ?k_l_alike ?a_law ?l_law ?e_law ?k_law
    (case z_abs => k_is)
    (case z_all => k_is)
    (case z_bool => k_is)
    (case z_dict => k_is)
    (case z_enumerate => k_is)
    (case z_int => k_is)
    (case z_isinstance => k_is)
    (case z_len => k_is)
    (case z_list => k_is)
    (case z_min => k_is)
    (case z_range => k_is)
    (case z_sorted => k_is)
    (case z_str => k_is)
    (case z_tuple => k_is)
    (case c_BACK => k_is)
    (case c_DEL => k_is)
    (case c_GREATEST_VALUE => k_is)
    (case c_KEEP => k_is)
    (case c_LETTERS => k_is)
    (case c_LONGEST_WORD => k_is)
    (case c_MARK => k_is)
    (case c_MOST_COMMANDS => k_is)
    (case c_SET => k_is)
    (case a_is_integer => k_is)
    (case l_is_integer => k_is)
    (case e_is_integer => k_is)
    (case k_is_integer => k_is)
    (case a_is_between => k_is)
    (case l_is_between => k_is)
    (case e_is_between => k_is)
    (case k_is_between => k_is)
    (case a_is_word => k_is)
    (case l_is_word => k_is)
    (case e_is_word => k_is)
    (case k_is_word => k_is)
    (case a_is_value => k_is)
    (case l_is_value => k_is)
    (case e_is_value => k_is)
    (case k_is_value => k_is)
    (case a_pairs_of => k_is)
    (case l_pairs_of => k_is)
    (case e_pairs_of => k_is)
    (case k_pairs_of => k_is)
    (case a_overlaid => k_is)
    (case l_overlaid => k_is)
    (case e_overlaid => k_is)
    (case k_overlaid => k_is)
    (case a_applied => k_is)
    (case l_applied => k_is)
    (case e_applied => k_is)
    (case k_applied => k_is)
    (case a_is_command => k_is)
    (case l_is_command => k_is)
    (case e_is_command => k_is)
    (case k_is_command => k_is)
    (case a_is_write => k_is)
    (case l_is_write => k_is)
    (case e_is_write => k_is)
    (case k_is_write => k_is)
    (case a_entry_of => k_is)
    (case l_entry_of => k_is)
    (case e_entry_of => k_is)
    (case k_entry_of => k_is)
    (case a_first_invalid => k_is)
    (case l_first_invalid => k_is)
    (case e_first_invalid => k_is)
    (case k_first_invalid => k_is)
    (case a_need_script => k_is)
    (case l_need_script => k_is)
    (case e_need_script => k_is)
    (case k_need_script => k_is)
    (case a_rule_of_writes => k_is)
    (case l_rule_of_writes => k_is)
    (case e_rule_of_writes => k_is)
    (case k_rule_of_writes => k_is)
    (case a_rule_of_two => k_is)
    (case l_rule_of_two => k_is)
    (case e_rule_of_two => k_is)
    (case k_rule_of_two => k_is)
    (case a_rule_of_three => k_is)
    (case l_rule_of_three => k_is)
    (case e_rule_of_three => k_is)
    (case k_rule_of_three => k_is)
    (case a_rule_from => k_is)
    (case l_rule_from => k_is)
    (case e_rule_from => k_is)
    (case k_rule_from => k_is)
    (case a_rule_of => k_is)
    (case l_rule_of => k_is)
    (case e_rule_of => k_is)
    (case k_rule_of => k_is)
    (case a_nearest_place => k_is)
    (case l_nearest_place => k_is)
    (case e_nearest_place => k_is)
    (case k_nearest_place => k_is)
    (case a_done => k_is)
    (case l_done => k_is)
    (case e_done => k_is)
    (case k_done => k_is)
    (case a_outcome => k_is)
    (case l_outcome => k_is)
    (case e_outcome => k_is)
    (case k_outcome => k_is)
    (case a_l_pen => k_is)
    (case l_l_pen => k_is)
    (case e_l_pen => k_is)
    (case k_l_pen => k_is)
    (case a_l_draw => k_is)
    (case l_l_draw => k_is)
    (case e_l_draw => k_is)
    (case k_l_draw => k_is)
    (case a_l_pick => k_is)
    (case l_l_pick => k_is)
    (case e_l_pick => k_is)
    (case k_l_pick => k_is)
    (case a_l_words => k_is)
    (case l_l_words => k_is)
    (case e_l_words => k_is)
    (case k_l_words => k_is)
    (case a_l_value => k_is)
    (case l_l_value => k_is)
    (case e_l_value => k_is)
    (case k_l_value => k_is)
    (case a_l_command => k_is)
    (case l_l_command => k_is)
    (case e_l_command => k_is)
    (case k_l_command => k_is)
    (case a_l_commands => k_is)
    (case l_l_commands => k_is)
    (case e_l_commands => k_is)
    (case k_l_commands => k_is)
    (case a_l_store => k_is)
    (case l_l_store => k_is)
    (case e_l_store => k_is)
    (case k_l_store => k_is)
    (case a_l_state => k_is)
    (case l_l_state => k_is)
    (case e_l_state => k_is)
    (case k_l_state => k_is)
    (case a_l_do => k_is)
    (case l_l_do => k_is)
    (case e_l_do => k_is)
    (case k_l_do => k_is)
    (case a_l_run => k_is)
    (case l_l_run => k_is)
    (case e_l_run => k_is)
    (case k_l_run => k_is)
    (case a_l_opened => k_is)
    (case l_l_opened => k_is)
    (case e_l_opened => k_is)
    (case k_l_opened => k_is)
    (case a_l_shut => k_is)
    (case l_l_shut => k_is)
    (case e_l_shut => k_is)
    (case k_l_shut => k_is)
    (case a_l_sides => k_is)
    (case l_l_sides => k_is)
    (case e_l_sides => k_is)
    (case k_l_sides => k_is)
    (case a_l_write => k_is)
    (case l_l_write => k_is)
    (case e_l_write => k_is)
    (case k_l_write => k_is)
    (case a_l_alike => k_is)
    (case l_l_alike => k_is)
    (case e_l_alike => k_is)
    (case k_l_alike => k_is)
    (case a_law => k_is)
    (case l_law => k_is)
    (case e_law => k_is)
    (case k_law => k_is)

